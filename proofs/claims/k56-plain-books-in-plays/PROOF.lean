import PyProof.Rows.All
import Wide.All
import OpenK.AllK
import Wide.FinOn
import HandS.ForMost
import HandS.ForExc
import HandS.Words
import HandS.WordsExc
import HandS.ExcOwn
import HandS.IsInst
import HandS.Style
import HandS.Codes
import HandS.Flow
import HandS.Head0
import HandS.Head1
import HandS.Head2
import HandS.Defaults
import HandS.HeadHook1
import HandS.HeadHook2
import HandS.HeadHook3
import PySem.Challenge.RW_pulledout_k56_whole_plain_books_in_plays
import HandS.TupAny
import PyProof.ReprRoads
import HandS.Star
import HandS.CallSlots
import HandS.TryOnly
import HandS.ClsMeth
import HandS.Property
import KE.KExcSuper
import HandS.ExcInit
import HandS.ExcSuper
import HandS.ExcField
import PyProof.SeqIndex
import HandS.Deep
import HandS.SortInts
import KE.GoesMore
import HandS.Nested
import KE.DataFind
import PyProof.InstNe
import PyProof.FactsAll.object_2
import HandS.TupMul
import HandS.MakeKw
import HandS.Dict
import HandS.Iter
import HandS.More
import HandS.WordsDict
import HandS.Set
import HandS.SetBool
import HandS.SetFor
import HandS.Strs
import HandS.DictComp
import HandS.OwnIter
import HandS.IterVal
import KE.KExcIs
import HandS.Remove
import HandS.Small
set_option Elab.async false
set_option linter.all false
set_option maxRecDepth 100000
set_option maxHeartbeats 4000000
namespace DL
open PySem PySem.Spec PyProof.Rows L2
abbrev Quiet (A : Around) : Prop := A.guards = some []
theorem Quiet.deeper {A : Around} (q : Quiet A) (env : Env) : Quiet (A.deeper env) := q
structure FnG (P : Program) (w : World) (K : PySem.W.Frag) (mg : Str -> Option Value) (base : Heap) (CX : CXT) (k : Nat) (f : Addr) (fd : FuncData) (ps : List Str) (sp : Sp) : Prop where
  ln : ∀ vs H Q E, sp vs H Q E -> vs.length = ps.length
  go : ∀ (A : Around) (os : List Env) (s : Shared) (H : Hp) (as : Args) (us : List Value) (vs : List V) (Q : VK) (E : XK), Room k A -> Quiet A -> Env0 P w K mg base A os s H -> BindsTo s fd as (ps.zip us) -> Vals vs us -> sp vs H Q E ->
    codeAny (model P w) A (.call (.ref f) as) (CR CX os P w H s Q E) s
theorem FnG.up {P : Program} {w : World} {K : PySem.W.Frag} {mg : Str -> Option Value} {base : Heap} {CX : CXT} {j k : Nat} {f : Addr} {fd : FuncData} {ps : List Str} {sp : Sp} (F : FnG P w K mg base CX j f fd ps sp) (h : j ≤ k) : FnG P w K mg base CX k f fd ps sp :=
  ⟨F.ln, fun A os s H as us vs Q E r => F.go A os s H as us vs Q E (r.mono h)⟩
theorem Zq4 {CX : CXT} {P : Program} {w : World} {K : PySem.W.Frag} {mg : Str -> Option Value} {base : Heap} {k : Nat} {f : Addr} {nm qn : Str} {pm : Arguments} {bd : List Stmt} {sc : Scope} {v1 v2 v3 v4 cdv v5 v6 : Value} {a1 a2 : Option Addr} {sl : Array (Option Value)} {N ps : List Str} {sp : Sp}
    (lk : K.lookup f = some ⟨v6, a2, .func (PySem.W.fnOf nm qn pm bd sc v1 v2 v3 v4 a1 cdv v5), sl⟩) (hcd : PySem.W.codeIn K cdv qn = true) (S : FnScope N ps sc) (ln : ∀ vs H Q E, sp vs H Q E -> vs.length = ps.length)
    (hb : ∀ (A : Around) (os : List Env) (s : Shared) (H : Hp) (vs : List V) (Q : VK) (E : XK), Room k (A.deeper (envOfC qn sc s.heap.objs.size f cdv)) -> Quiet (A.deeper (envOfC qn sc s.heap.objs.size f cdv)) -> sp vs H Q E ->
      ∃ t, PSs (cxOf CX P w K mg base N qn sc f cdv A os s H E) bd t ∧ t { nx := fun _ H' => Q .non H', rt := Q } (start N vs) H) :
    FnG P w K mg base CX (k + 1) f (PySem.W.fnOf nm qn pm bd sc v1 v2 v3 v4 a1 cdv v5) ps sp := by
  refine ⟨ln, fun A os s H as us vs Q E hr hq e0 hbd rv hsp => ?_⟩
  have up : ∀ b o, base.get? b = some o -> s.heap.get? b = some o := fun b o z => (e0.bs b o z).1
  have hK := e0.mod.kin.keeps up
  have knd : ∀ y ∈ ps.zip us, sc.names.lookup y.1 = some .local ∨ (sc.names.lookup y.1 = some .cell ∧ ((cellsFrom (s.heap.objs.size + 1) sc.names []).lookup y.1).isSome = true) := by
    rintro ⟨n, v⟩ hy
    rcases S.par n (List.of_mem_zip hy).1 with z | z
    · exact Or.inl z
    · exact Or.inr ⟨z, PySem.W.cellsFrom_some _ _ _ (Or.inl z)⟩
  refine codeAny_call_function hr.depth (hK _ _ lk) rfl S.co S.gen rfl (PySem.W.codeRec_of hK hcd) (hbd _ _ _ _ ?_)
  refine wpAny_newFunctionEnv_cells S.kind knd fun env z s1 x => ?_
  subst z
  refine ⟨(e0.mod.nolimit.keeps up).keeps x.toInCall.keep, codeAny_func ?_⟩
  obtain ⟨t, ht, hQ⟩ := hb A os s H vs Q E (hr.deeper _) (hq.deeper _) hsp
  have I0 := inv_start (CX := CX) (E := E) S hr.hd e0 (ln _ _ _ _ hsp) rv x
  refine wpAny_mono (ht.run [] s1 (start N vs) H _ I0 hQ) (fun fl s' z => ?_) fun e s' z => z
  cases fl with
  | ret u => obtain ⟨v, σ', H', J, r1, r2⟩ := z; exact ⟨v, H', J.os, J.bare, J.base, J.hok, r1, r2⟩
  | next => obtain ⟨σ', H', J, r2⟩ := z; exact ⟨V.non, H', J.os, J.bare, J.base, J.hok, rfl, r2⟩
  | brk => obtain ⟨_, _, _, z⟩ := z; exact z.elim
  | cont => obtain ⟨_, _, _, z⟩ := z; exact z.elim
def scrH (a : Addr) (o : Obj) (ns : List Int) : Hp := fun b => if b = a then some (.frz o (.lst (ns.map V.int))) else none
theorem Zd5 (a : Addr) (o : Obj) (ns : List Int) : scrH a o ns a = some (.frz o (.lst (ns.map V.int))) := if_pos rfl
theorem Za8 {a b : Addr} (o : Obj) (ns : List Int) (h : b ≠ a) : scrH a o ns b = none := if_neg h
theorem Zrp {P : Program} {w : World} {K : PySem.W.Frag} {mg mb : Str -> Option Value} {CX : CXT} {k : Nat} {fa a : Addr} {fd : FuncData} {x : Str} {sp : Sp} {s1 : Shared} {vs : List Value} {ns : List Int}
    (KX : K.In s1.heap) (h1 : s1.heap.Ns mainGlobals mg) (h2 : s1.heap.Ns builtinsNs mb) (h3 : ∀ x : Str, x ≠ "__name__" -> mb x = bootBuiltins x) (h4 : s1.heap.NoLimit) (h5 : s1.gens = #[])
    (ha : s1.heap.get? a = some { cls := .type "list", data := .seq vs.toArray }) (hi : IntsAre vs ns) (hl : ns.length ≤ sizeLine) (hr : Room k callerA) (hKa : K.lookup a = none)
    (F : ∀ base : Heap, K.In base -> base.Ns mainGlobals mg -> FnG P w K mg base CX k fa fd [x] sp) (hbind : ∀ (s : Shared) (u : Value), BindsTo s fd ⟨[u], []⟩ [(x, u)])
    (hsp : ∀ o : Obj, sp [.ref a] (scrH a o ns) (fun v _ => v = .bl true) fun _ _ _ => False) (hCX : ∀ H e s', CX [] H s1 (fun _ _ _ => False) e s' -> False) :
    codeAny (model P w) callerA (.call (.ref fa) ⟨[.ref a], []⟩) (fun r s' => r = .ok (.ret (.bool true)) ∧ OldK s1.heap s'.heap ∧ s'.os = s1.os ∧ AllBare s'.gens) s1 := by
  generalize ho : ({ cls := .type "list", data := .seq vs.toArray } : Obj) = o0 at ha
  have rv := vals_ints hi
  have hok : HOk P w (scrH a o0 ns) s1.heap := fun b u z => by
    by_cases e : b = a
    · subst e
      rw [Zd5] at z
      cases z
      subst ho
      exact ⟨ha, by rw [List.length_map]; exact hl, vs, _, rv, ha⟩
    · rw [Za8 o0 ns e] at z
      cases z
  have off : ∀ {b : Addr} {o : Obj}, s1.heap.get? b = some o -> b ≠ a -> (hidT s1.heap (scrH a o0 ns)).get? b = some o := fun z e => hidT_get z (Za8 o0 ns e)
  have nsB : ∀ {b : Addr} {m : Str -> Option Value}, s1.heap.Ns b m -> (hidT s1.heap (scrH a o0 ns)).Ns b m := fun {b m} z => by
    obtain ⟨o, es, ep, g1, g2, g3⟩ := z
    refine ⟨o, es, ep, off g1 fun e => ?_, g2, g3⟩
    subst e
    rw [ha] at g1
    cases g1
    subst ho
    cases g2
  have kB : K.In (hidT s1.heap (scrH a o0 ns)) := fun b o z => off (KX b o z) fun e => by
    rw [e, hKa] at z
    cases z
  have mB : Mod K mg (hidT s1.heap (scrH a o0 ns)) := ⟨kB, nsB h1, ⟨mb, nsB h2, h3⟩, by obtain ⟨mc, g1, g2⟩ := h4; exact ⟨mc, nsB g1, g2⟩⟩
  have e0 : Env0 P w K mg (hidT s1.heap (scrH a o0 ns)) callerA [] s1 (scrH a o0 ns) := ⟨rfl, mB, fun b o z => of_hidT z, Nat.le_of_eq (hidT_size _ _), trivial, fun b z => absurd (show b ∈ ([] : List Addr) from z) (by simp), hok, .of_eq h5⟩
  refine codeAny_mono ((F _ kB (nsB h1)).go callerA [] s1 (scrH a o0 ns) ⟨[.ref a], []⟩ [.ref a] [.ref a] _ _ hr rfl e0 (hbind s1 (.ref a)) (.cons rfl .nil) (hsp o0)) fun r s' z => ?_
  match r, z with
  | .error e, z => exact (hCX _ e s' z).elim
  | .ok .next, z | .ok .brk, z | .ok .cont, z => exact False.elim z
  | .ok (.ret u), z =>
    obtain ⟨v, H', g1, g2, un, hok', g3, g4⟩ := z
    have g4 : v = .bl true := g4
    subst g4
    obtain rfl : u = Value.bool true := g3
    refine ⟨rfl, OldK.of_keep fun b o q => ?_, g1, g2⟩
    by_cases e : b = a
    · subst e
      have q2 := un.frzs b o0 _ (Zd5 b o0 ns)
      obtain ⟨q3, _⟩ := hok' b _ q2
      rw [ha] at q
      cases q
      exact q3
    · exact un.keep b o q (Za8 o0 ns e) (by intro z; exact absurd (show b ∈ ([] : List Addr) from z) (by simp)) (by simp)
theorem okGX {P : Program} {w : World} {K : PySem.W.Frag} {mg : Str -> Option Value} {base : Heap} {x qn : Str} {st : Stmt} {f : Addr} {fd : FuncData} {N ps : List Str} {k : Nat} {sp : Sp} (F : Fun K x qn st f fd) (S : FnScope N ps (defScope st)) (ln : ∀ vs H Q E, sp vs H Q E -> vs.length = ps.length)
    (hb : ∀ (cdv : Value) (A : Around) (os : List Env) (s : Shared) (H : Hp) (vs : List V) (Q : VK) (E : XK), Room k (A.deeper (envOfC qn (defScope st) s.heap.objs.size f cdv)) -> Quiet (A.deeper (envOfC qn (defScope st) s.heap.objs.size f cdv)) -> sp vs H Q E ->
      ∃ t, PSs (cxOf (L2.CX P w) P w K mg base N qn (defScope st) f cdv A os s H E) (defBody st) t ∧ t { nx := fun _ H' => Q .non H', rt := Q } (start N vs) H) : FnG P w K mg base (L2.CX P w) (k + 1) f fd ps sp := by
  obtain ⟨v1, a1, v2, v3, v4, a2, cdv, v5, sl, rfl, lk, hcd⟩ := F.ex
  exact Zq4 lk hcd S ln fun A os s H vs Q E hr hq hsp => hb cdv A os s H vs Q E hr hq hsp
end DL
namespace DM
open PySem L2 DL
inductive D where
  | non | bl (b : Bool) | int (i : Int) | str (s : Str)
  | lst (ds : List D) | tup (ds : List D) | dct (kvs : List (Key × D)) | obj (C : Str) (fs : List (Str × D)) | ty (T : String) | exc (C : Str) (fs : List (Str × D)) | fdc (kvs : List (Key × D))
def Ex (H H' : Hp) : Prop := ∀ a o, H a = some o -> H' a = some o
theorem Ex.refl (H : Hp) : Ex H H := fun _ _ h => h
theorem Ex.trans {H H1 H2 : Hp} (a : Ex H H1) (b : Ex H1 H2) : Ex H H2 := fun x o h => b x o (a x o h)
theorem Ex.new {H : Hp} {p : Addr} {o : HO} (h : H p = none) : Ex H (upd H p o) := fun a u e => by
  rw [upd_ne (ne_of_none e h)]; exact e
theorem Ex.none {H H' : Hp} (e : Ex H H') {p : Addr} (h : H' p = none) : H p = none := by
  cases q : H p with
  | none => rfl
  | some o => rw [e p o q] at h; cases h
theorem Ex.rd {H H' : Hp} {a : Addr} {u : HO} (e : Ex H H') (h : Rd H a u) : Rd H' a u := by
  rcases h with h | ⟨o, h⟩
  · exact Or.inl (e a _ h)
  · exact Or.inr ⟨o, e a _ h⟩
theorem Ex.sl {K : PySem.W.Frag} {H H' : Hp} {a : Addr} {xs : List V} (e : Ex H H') (h : SqL K H a xs) : SqL K H' a xs := by
  rcases h with h | h
  · exact Or.inl (e.rd h)
  · exact Or.inr h
theorem Ex.st {K : PySem.W.Frag} {H H' : Hp} {a : Addr} {xs : List V} (e : Ex H H') (h : SqT K H a xs) : SqT K H' a xs := by
  rcases h with h | h
  · exact Or.inl (e.rd h)
  · exact Or.inr h
def TqT (K : PySem.W.Frag) (H : Hp) (a : Addr) (xs : List V) : Prop := (∃ o, H a = some (.frz o (.tup xs)) ∧ o.dict = none) ∨
  ∃ (o : Obj) (its : Array Value) (n : Nat), K.lookup a = some o ∧ o.cls = .type "tuple" ∧ o.dict = none ∧ o.data = .seq its n ∧ its.size ≤ sizeLine ∧ Vals xs its.toList
theorem TqT.sq {K : PySem.W.Frag} {H : Hp} {a : Addr} {xs : List V} (h : TqT K H a xs) : SqT K H a xs := by
  rcases h with ⟨o, h, _⟩ | ⟨o, its, n, h1, h2, _, h3, h4, h5⟩
  · exact Or.inl (Or.inr ⟨o, h⟩)
  · exact Or.inr ⟨o, its, n, h1, h2, h3, h4, h5⟩
theorem Ex.tq {K : PySem.W.Frag} {H H' : Hp} {a : Addr} {xs : List V} (e : Ex H H') (h : TqT K H a xs) : TqT K H' a xs := by
  rcases h with ⟨o, h, h'⟩ | h
  · exact Or.inl ⟨o, e _ _ h, h'⟩
  · exact Or.inr h
abbrev Cl (K : PySem.W.Frag) (C : Str) (c : Addr) : Prop := PySem.W.nsIn K mainGlobals C = some (some (.ref c))
def ExO (a c d : Addr) : HO := .ext fun h => ∃ oe vs, h.get? a = some oe ∧ oe.cls = .ref c ∧ oe.dict = some d ∧ oe.data = .fields vs
mutual
inductive Dr (K : PySem.W.Frag) (F : Hp) : V -> D -> Prop
  | non : Dr K F .non .non
  | bl (b : Bool) : Dr K F (.bl b) (.bl b)
  | int (i : Int) : Dr K F (.int i) (.int i)
  | str (x : Str) : Dr K F (.str x) (.str x)
  | lst {a : Addr} {xs : List V} {ds : List D} : Rd F a (.lst xs) -> DrA K F xs ds -> Dr K F (.ref a) (.lst ds)
  | tup {a : Addr} {xs : List V} {ds : List D} : TqT K F a xs -> DrA K F xs ds -> Dr K F (.ref a) (.tup ds)
  | dct {a : Addr} {kvs : List (Key × V)} {kds : List (Key × D)} : F a = some (.dK kvs) -> kvs.map (·.1) = kds.map (·.1) -> DrA K F (kvs.map (·.2)) (kds.map (·.2)) -> Dr K F (.ref a) (.dct kds)
  | obj {a c dx : Addr} {C : Str} {fs : List (Str × V)} {gs : List (Str × D)} : F a = some (.ins c dx fs) -> Cl K C c -> fs.map (·.1) = gs.map (·.1) -> DrA K F (fs.map (·.2)) (gs.map (·.2)) -> Dr K F (.ref a) (.obj C gs)
  | ty (T : String) : Dr K F (.ty T) (.ty T)
  | exc {a d c : Addr} {C : Str} {fs : List (Str × V)} {gs : List (Str × D)} : F a = some (ExO a c d) -> F d = some (.xd fs) -> Cl K C c -> fs.map (·.1) = gs.map (·.1) -> DrA K F (fs.map (·.2)) (gs.map (·.2)) -> Dr K F (.ref a) (.exc C gs)
  | fdc {a : Addr} {o : Obj} {kvs : List (Key × V)} {kds : List (Key × D)} : F a = some (.frz o (.dK kvs)) -> kvs.map (·.1) = kds.map (·.1) -> DrA K F (kvs.map (·.2)) (kds.map (·.2)) -> Dr K F (.ref a) (.fdc kds)
inductive DrA (K : PySem.W.Frag) (F : Hp) : List V -> List D -> Prop
  | nil : DrA K F [] []
  | cons {v : V} {vs : List V} {d : D} {ds : List D} : Dr K F v d -> DrA K F vs ds -> DrA K F (v :: vs) (d :: ds)
end
section
variable {K : PySem.W.Frag} {F F' : Hp}
theorem Dr.mono (e : Ex F F') {v : V} {d : D} (h : Dr K F v d) : Dr K F' v d :=
  Dr.rec (motive_1 := fun v d _ => Dr K F' v d) (motive_2 := fun vs ds _ => DrA K F' vs ds)
    .non .bl .int .str (fun h _ ih => .lst (e.rd h) ih) (fun h _ ih => .tup (e.tq h) ih) (fun h k _ ih => .dct (e _ _ h) k ih) (fun h c k _ ih => .obj (e _ _ h) c k ih) .ty (fun h1 h c k _ ih => .exc (e _ _ h1) (e _ _ h) c k ih) (fun h k _ ih => .fdc (e _ _ h) k ih)
    .nil (fun _ _ ih ih2 => .cons ih ih2) h
theorem DrA.mono (e : Ex F F') : ∀ {vs : List V} {ds : List D}, DrA K F vs ds -> DrA K F' vs ds
  | _, _, .nil => .nil
  | _, _, .cons h t => .cons (h.mono e) (DrA.mono e t)
theorem DrA.length : ∀ {vs : List V} {ds : List D}, DrA K F vs ds -> vs.length = ds.length
  | _, _, .nil => rfl
  | _, _, .cons _ t => by rw [List.length_cons, List.length_cons, DrA.length t]
theorem DrA.get : ∀ {vs : List V} {ds : List D} {i : Nat} {d : D}, DrA K F vs ds -> ds[i]? = some d -> ∃ v, vs[i]? = some v ∧ Dr K F v d
  | _, _, _, _, .nil, e => by simp at e
  | _, _, 0, _, .cons h _, e => by simp at e; subst e; exact ⟨_, rfl, h⟩
  | _, _, i + 1, d, .cons _ t, e => by
    obtain ⟨v, h1, h2⟩ := DrA.get (i := i) (d := d) t (by simpa using e)
    exact ⟨v, by simpa using h1, h2⟩
theorem DrA.append : ∀ {vs ws : List V} {ds es : List D}, DrA K F vs ds -> DrA K F ws es -> DrA K F (vs ++ ws) (ds ++ es)
  | _, _, _, _, .nil, s => s
  | _, _, _, _, .cons h t, s => .cons h (DrA.append t s)
theorem DrA.take : ∀ {vs : List V} {ds : List D} (n : Nat), DrA K F vs ds -> DrA K F (vs.take n) (ds.take n)
  | _, _, 0, _ => by rw [List.take_zero, List.take_zero]; exact .nil
  | _, _, _ + 1, .nil => by rw [List.take_nil, List.take_nil]; exact .nil
  | _, _, n + 1, .cons h t => .cons h (DrA.take n t)
theorem DrA.drop : ∀ {vs : List V} {ds : List D} (n : Nat), DrA K F vs ds -> DrA K F (vs.drop n) (ds.drop n)
  | _, _, 0, r => r
  | _, _, _ + 1, .nil => by rw [List.drop_nil, List.drop_nil]; exact .nil
  | _, _, n + 1, .cons _ t => DrA.drop n t
theorem DrA.set : ∀ {vs : List V} {ds : List D} (i : Nat) {v : V} {d : D}, Dr K F v d -> DrA K F vs ds -> DrA K F (vs.set i v) (ds.set i d)
  | _, _, _, _, _, _, .nil => .nil
  | _, _, 0, _, _, r, .cons _ t => .cons r t
  | _, _, i + 1, _, _, r, .cons q t => .cons q (DrA.set i r t)
theorem DrA.one {v : V} {d : D} (h : Dr K F v d) : DrA K F [v] [d] := .cons h .nil
end
inductive Do (K : PySem.W.Frag) (F : Hp) : HO -> D -> Prop
  | lst {xs : List V} {ds : List D} : DrA K F xs ds -> Do K F (.lst xs) (.lst ds)
  | dct {kvs : List (Key × V)} {kds : List (Key × D)} : kvs.map (·.1) = kds.map (·.1) -> DrA K F (kvs.map (·.2)) (kds.map (·.2)) -> Do K F (.dK kvs) (.dct kds)
  | obj {c dx : Addr} {C : Str} {fs : List (Str × V)} {gs : List (Str × D)} : Cl K C c -> fs.map (·.1) = gs.map (·.1) -> DrA K F (fs.map (·.2)) (gs.map (·.2)) -> Do K F (.ins c dx fs) (.obj C gs)
theorem Do.mono {K : PySem.W.Frag} {F F' : Hp} (e : Ex F F') {o : HO} {d : D} (h : Do K F o d) : Do K F' o d := by
  cases h with
  | lst h => exact .lst (h.mono e)
  | dct k h => exact .dct k (h.mono e)
  | obj c k h => exact .obj c k (h.mono e)
theorem Do.dr {K : PySem.W.Frag} {F : Hp} {p : Addr} {o : HO} {d : D} (hp : F p = some o) (h : Do K F o d) : Dr K F (.ref p) d := by
  cases h with
  | lst h => exact .lst (Or.inl hp) h
  | dct k h => exact .dct hp k h
  | obj c k h => exact .obj hp c k h
inductive OwF (K : PySem.W.Frag) (F H : Hp) (fs : List Str) : List (Str × V) -> List (Str × D) -> List Addr -> Prop
  | nil : OwF K F H fs [] [] []
  | fz {n : Str} {v : V} {d : D} {ws : List (Str × V)} {gs : List (Str × D)} {S : List Addr} : n ∉ fs -> Dr K F v d -> OwF K F H fs ws gs S -> OwF K F H fs ((n, v) :: ws) ((n, d) :: gs) S
  | ow {n : Str} {q : Addr} {o : HO} {d : D} {ws : List (Str × V)} {gs : List (Str × D)} {S : List Addr} : n ∈ fs -> H q = some o -> Do K F o d -> q ∉ S -> OwF K F H fs ws gs S -> OwF K F H fs ((n, .ref q) :: ws) ((n, d) :: gs) (q :: S)
inductive Own (K : PySem.W.Frag) (F H : Hp) : Addr -> D -> List Str -> List Addr -> Prop
  | ce {p : Addr} {o : HO} {d : D} : H p = some o -> Do K F o d -> Own K F H p d [] [p]
  | ob {p c dx : Addr} {C : Str} {ws : List (Str × V)} {gs : List (Str × D)} {fs : List Str} {S : List Addr} : H p = some (.ins c dx ws) -> Cl K C c -> OwF K F H fs ws gs S -> Own K F H p (.obj C gs) fs (p :: S)
section
variable {K : PySem.W.Frag} {F F' H H' : Hp} {fs : List Str} {ws : List (Str × V)} {gs : List (Str × D)} {S : List Addr} {p : Addr} {d : D}
theorem OwF.congr (e : Ex F F') (h : OwF K F H fs ws gs S) (hS : ∀ a ∈ S, H' a = H a) : OwF K F' H' fs ws gs S := by
  induction h with
  | nil => exact .nil
  | fz h1 h2 _ ih => exact .fz h1 (h2.mono e) (ih hS)
  | ow h1 h2 h3 h4 _ ih => exact .ow h1 (by rw [hS _ List.mem_cons_self]; exact h2) (h3.mono e) h4 (ih fun a ha => hS a (List.mem_cons_of_mem _ ha))
theorem Own.congr (e : Ex F F') (h : Own K F H p d fs S) (hS : ∀ a ∈ S, H' a = H a) : Own K F' H' p d fs S := by
  cases h with
  | ce h1 h2 => exact .ce (by rw [hS _ List.mem_cons_self]; exact h1) (h2.mono e)
  | ob h1 h2 h3 => exact .ob (by rw [hS _ List.mem_cons_self]; exact h1) h2 (h3.congr e fun a ha => hS a (List.mem_cons_of_mem _ ha))
theorem OwF.some (h : OwF K F H fs ws gs S) : ∀ a ∈ S, ∃ o, H a = .some o := by
  induction h with
  | nil => exact fun a ha => nomatch ha
  | fz _ _ _ ih => exact ih
  | ow _ h2 _ _ _ ih =>
    intro a ha
    rcases List.mem_cons.mp ha with z | z
    · subst z; exact ⟨_, h2⟩
    · exact ih a z
theorem Own.some (h : Own K F H p d fs S) : ∀ a ∈ S, ∃ o, H a = .some o := by
  cases h with
  | ce h1 _ => exact fun a ha => by rw [List.mem_singleton.mp ha]; exact ⟨_, h1⟩
  | ob h1 _ h3 =>
    intro a ha
    rcases List.mem_cons.mp ha with z | z
    · subst z; exact ⟨_, h1⟩
    · exact h3.some a z
theorem OwF.names (h : OwF K F H fs ws gs S) : ws.map (·.1) = gs.map (·.1) := by
  induction h with
  | nil => rfl
  | fz _ _ _ ih => simp only [List.map_cons, ih]
  | ow _ _ _ _ _ ih => simp only [List.map_cons, ih]
theorem OwF.plain (h : OwF K F H [] ws gs S) : S = [] ∧ ws.map (·.1) = gs.map (·.1) ∧ DrA K F (ws.map (·.2)) (gs.map (·.2)) := by
  generalize hz : ([] : List Str) = z at h
  induction h with
  | nil => exact ⟨rfl, rfl, .nil⟩
  | fz _ h2 _ ih =>
    obtain ⟨a, b, c⟩ := ih
    exact ⟨a, by simp only [List.map_cons, b], .cons h2 c⟩
  | ow h1 => subst hz; cases h1
theorem Own.plain (h : Own K F H p d [] S) : S = [p] ∧ ∃ o, H p = .some o ∧ Do K F o d := by
  generalize hz : ([] : List Str) = z at h
  cases h with
  | ce h1 h2 => exact ⟨rfl, _, h1, h2⟩
  | ob h1 h2 h3 =>
    subst hz
    obtain ⟨rfl, a, b⟩ := h3.plain
    exact ⟨rfl, _, h1, .obj h2 a b⟩
def lay (F H : Hp) (S : List Addr) : Hp := fun a => if a ∈ S then H a else F a
theorem Zet {a : Addr} (h : a ∈ S) : lay F H S a = H a := if_pos h
theorem Zat {a : Addr} (h : a ∉ S) : lay F H S a = F a := if_neg h
theorem Zce (hS : ∀ a ∈ S, F a = none) : Ex F (lay F H S) := fun a o h => by
  rw [Zat fun z => by rw [hS a z] at h; cases h]; exact h
theorem Zpi (e : Ex F H) : Ex (lay F H S) H := fun a o h => by
  by_cases z : a ∈ S
  · rw [Zet z] at h; exact h
  · rw [Zat z] at h; exact e a o h
theorem OwF.still (h : OwF K F H fs ws gs S) (e : Ex F F') (hS : ∀ a ∈ S, F' a = H a) : DrA K F' (ws.map (·.2)) (gs.map (·.2)) := by
  induction h with
  | nil => exact .nil
  | fz _ h2 _ ih => exact .cons (h2.mono e) (ih hS)
  | ow _ h2 h3 _ _ ih => exact .cons ((h3.mono e).dr (by rw [hS _ List.mem_cons_self]; exact h2)) (ih fun a ha => hS a (List.mem_cons_of_mem _ ha))
theorem Own.still (h : Own K F H p d fs S) (e : Ex F F') (hS : ∀ a ∈ S, F' a = H a) : Dr K F' (.ref p) d := by
  cases h with
  | ce h1 h2 => exact (h2.mono e).dr (by rw [hS _ List.mem_cons_self]; exact h1)
  | ob h1 h2 h3 => exact .obj (by rw [hS _ List.mem_cons_self]; exact h1) h2 h3.names (h3.still e fun a ha => hS a (List.mem_cons_of_mem _ ha))
end
inductive Sl where
  | un | fz (d : D) | ow (t : Option Nat) (d : D) (fs : List Str) | xc (a d : Addr) (fs : List (Str × D))
abbrev Fm := List Sl
def fget : Fm -> Nat -> Sl
  | [], _ => .un
  | x :: _, 0 => x
  | _ :: xs, i + 1 => fget xs i
def fput : Fm -> Nat -> Sl -> Fm
  | [], _, _ => []
  | _ :: xs, 0, y => y :: xs
  | x :: xs, i + 1, y => x :: fput xs i y
theorem Z1a : ∀ (env : Fm) (i : Nat) (y : Sl), (fput env i y).length = env.length
  | [], _, _ => rfl
  | _ :: _, 0, _ => rfl
  | _ :: xs, i + 1, y => by rw [fput, List.length_cons, List.length_cons, Z1a xs i y]
theorem Zz : ∀ (env : Fm) {i j : Nat} (y : Sl), i ≠ j -> fget (fput env i y) j = fget env j
  | [], _, _, _, _ => rfl
  | _ :: _, 0, 0, _, h => absurd rfl h
  | _ :: _, 0, _ + 1, _, _ => rfl
  | _ :: _, _ + 1, 0, _, _ => rfl
  | _ :: xs, i + 1, j + 1, y, h => Zz xs y fun z => h (by rw [z])
theorem Z7p : ∀ (env : Fm) {i : Nat} (y : Sl), fget (fput env i y) i = y ∨ fget (fput env i y) i = .un
  | [], _, _ => .inr rfl
  | _ :: _, 0, _ => .inl rfl
  | _ :: xs, i + 1, y => Z7p xs y
theorem Z36 : ∀ {env : Fm} {i : Nat} {x : Sl}, fget env i = x -> x ≠ .un -> i < env.length
  | [], _, _, h, n => absurd h.symm n
  | _ :: _, 0, _, _, _ => by simp
  | _ :: xs, i + 1, x, h, n => by have := Z36 (env := xs) h n; simp; omega
theorem Z1o : ∀ {env : Fm} {i : Nat} {y : Sl}, i < env.length -> fget (fput env i y) i = y
  | [], _, _, h => by simp at h
  | _ :: _, 0, _, _ => rfl
  | _ :: xs, i + 1, y, h => Z1o (env := xs) (by simp at h; omega)
structure Bs where
  F0 : Hp
  H0 : Hp
  ps : Addr -> Prop
  par : Nat -> Option Addr
structure Hs (K : PySem.W.Frag) (B : Bs) (F H : Hp) (σ : L2.St) (env : Fm) (ft : Nat -> List Addr) : Prop where
  ow : ∀ (i : Nat) (t : Option Nat) (d : D) (fs : List Str), fget env i = .ow t d fs -> ∃ p, σ[i]? = some (some (.ref p)) ∧ Own K F H p d fs (ft i) ∧ (∀ a ∈ ft i, F a = none ∧ (B.H0 a = none ∨ B.ps a)) ∧ ∀ k, t = some k -> B.par k = some p
  dis : ∀ (i j : Nat) (t u : Option Nat) (d e : D) (fs gs : List Str), i ≠ j -> fget env i = .ow t d fs -> fget env j = .ow u e gs -> ∀ a, a ∈ ft i -> a ∈ ft j -> False
structure SR (K : PySem.W.Frag) (B : Bs) (F H : Hp) (σ : L2.St) (env : Fm) : Prop where
  ex : Ex F H
  ex0 : Ex B.F0 F
  keep : ∀ a o, B.H0 a = some o -> ¬ B.ps a -> H a = some o
  newF : ∀ a o, F a = some o -> B.F0 a ≠ none ∨ B.H0 a = none ∨ B.ps a
  len : σ.length = env.length
  fz : ∀ (i : Nat) (d : D), fget env i = .fz d -> ∃ v, σ[i]? = some (some v) ∧ Dr K F v d
  xc : ∀ (i : Nat) (a d : Addr) (gs : List (Str × D)), fget env i = .xc a d gs -> σ[i]? = some (some (.ref a)) ∧ ∃ fs, F d = some (.xd fs) ∧ fs.map (·.1) = gs.map (·.1) ∧ DrA K F (fs.map (·.2)) (gs.map (·.2))
  own : ∃ ft, Hs K B F H σ env ft
section
variable {K : PySem.W.Frag} {B : Bs} {F H F' H' : Hp} {σ σ' : L2.St} {env env' : Fm} {ft : Nat -> List Addr}
def owned (env : Fm) (ft : Nat -> List Addr) (p : Addr) : Prop := ∃ (i : Nat) (t : Option Nat) (d : D) (fs : List Str), fget env i = .ow t d fs ∧ p ∈ ft i
theorem Hs.owned_b (h : Hs K B F H σ env ft) {p : Addr} (o : owned env ft p) : F p = none ∧ (∃ o, H p = some o) ∧ (B.H0 p = none ∨ B.ps p) := by
  obtain ⟨i, t, d, fs, e1, e2⟩ := o
  obtain ⟨q, h1, h2, h3, _⟩ := h.ow i t d fs e1
  exact ⟨(h3 p e2).1, h2.some p e2, (h3 p e2).2⟩
theorem Hs.congr (h : Hs K B F H σ env ft) (e : Ex F F') (hS : ∀ a, owned env ft a -> H' a = H a ∧ F' a = none) : Hs K B F' H' σ env ft where
  ow := fun i t d fs he => by
    obtain ⟨q, h1, h2, h3, h4⟩ := h.ow i t d fs he
    exact ⟨q, h1, h2.congr e fun a ha => (hS a ⟨i, t, d, fs, he, ha⟩).1, fun a ha => ⟨(hS a ⟨i, t, d, fs, he, ha⟩).2, (h3 a ha).2⟩, h4⟩
  dis := h.dis
theorem SR.new_b (s : SR K B F H σ env) {p : Addr} (hp : H p = none) : B.H0 p = none ∨ B.ps p := by
  cases q : B.H0 p with
  | none => exact Or.inl rfl
  | some u =>
    refine Or.inr (Classical.byContradiction fun hc => ?_)
    rw [s.keep p u q hc] at hp
    cases hp
theorem SR.grow (s : SR K B F H σ env) {p : Addr} {o : HO} (hp : H p = none) : SR K B (upd F p o) (upd H p o) σ env where
  ex := fun a u h => by
    by_cases e : a = p
    · subst e; rw [upd_same] at h ⊢; exact h
    · rw [upd_ne e] at h ⊢; exact s.ex a u h
  ex0 := s.ex0.trans (Ex.new (s.ex.none hp))
  keep := fun a u h n => by
    have h1 := s.keep a u h n
    rw [upd_ne (ne_of_none h1 hp)]; exact h1
  newF := fun a u h => by
    by_cases e : a = p
    · subst e; exact Or.inr (s.new_b hp)
    · rw [upd_ne e] at h; exact s.newF a u h
  len := s.len
  fz := fun i d e => by
    obtain ⟨v, h1, h2⟩ := s.fz i d e
    exact ⟨v, h1, h2.mono (Ex.new (s.ex.none hp))⟩
  xc := fun i a d gs e => by
    obtain ⟨h1, fs, h2, h3, h4⟩ := s.xc i a d gs e
    exact ⟨h1, fs, Ex.new (s.ex.none hp) _ _ h2, h3, h4.mono (Ex.new (s.ex.none hp))⟩
  own := by
    obtain ⟨ft, h⟩ := s.own
    refine ⟨ft, h.congr (Ex.new (s.ex.none hp)) fun a ha => ?_⟩
    obtain ⟨h1, ⟨u, h2⟩, _⟩ := h.owned_b ha
    have hne : a ≠ p := ne_of_none h2 hp
    exact ⟨upd_ne hne, by rw [upd_ne hne]; exact h1⟩
theorem SR.growH (s : SR K B F H σ env) {p : Addr} {o : HO} (hp : H p = none) : SR K B F (upd H p o) σ env where
  ex := s.ex.trans (Ex.new hp)
  ex0 := s.ex0
  keep := fun a u h n => by
    have h1 := s.keep a u h n
    rw [upd_ne (ne_of_none h1 hp)]; exact h1
  newF := s.newF
  len := s.len
  fz := s.fz
  xc := s.xc
  own := by
    obtain ⟨ft, h⟩ := s.own
    refine ⟨ft, h.congr (Ex.refl F) fun a ha => ?_⟩
    obtain ⟨h1, ⟨u, h2⟩, _⟩ := h.owned_b ha
    exact ⟨upd_ne (ne_of_none h2 hp), h1⟩
theorem getσ {i j : Nat} {v : Option V} (hij : i ≠ j) : (σ.set i v)[j]? = σ[j]? := List.getElem?_set_ne hij
theorem SR.put (s : SR K B F H σ env) (i : Nat) (v : Option V) (y : Sl) (hfz : ∀ d, y = .fz d -> ∃ w, v = some w ∧ Dr K F w d)
    (hxc : ∀ a d gs, y = .xc a d gs -> v = some (.ref a) ∧ ∃ fs, F d = some (.xd fs) ∧ fs.map (·.1) = gs.map (·.1) ∧ DrA K F (fs.map (·.2)) (gs.map (·.2)))
    (how : ∀ ft, Hs K B F H σ env ft -> ∀ t d fs, y = .ow t d fs -> ∃ p S, v = some (.ref p) ∧ Own K F H p d fs S ∧ (∀ a ∈ S, F a = none ∧ (B.H0 a = none ∨ B.ps a)) ∧ (∀ a ∈ S, ¬ owned env ft a) ∧ ∀ k, t = some k -> B.par k = some p) :
    SR K B F H (σ.set i v) (fput env i y) where
  ex := s.ex
  ex0 := s.ex0
  keep := s.keep
  newF := s.newF
  len := by rw [List.length_set, Z1a]; exact s.len
  fz := fun j d h1 => by
    by_cases hij : i = j
    · subst hij
      have hl : i < env.length := by have := Z36 h1 (fun z => nomatch z); rw [Z1a] at this; exact this
      rw [Z1o hl] at h1
      obtain ⟨w, rfl, hw⟩ := hfz d h1
      exact ⟨w, List.getElem?_set_self (by rw [s.len]; exact hl), hw⟩
    · rw [Zz _ _ hij] at h1
      rw [getσ hij]
      exact s.fz j d h1
  xc := fun j a d gs h1 => by
    by_cases hij : i = j
    · subst hij
      have hl : i < env.length := by have := Z36 h1 (fun z => nomatch z); rw [Z1a] at this; exact this
      rw [Z1o hl] at h1
      obtain ⟨rfl, hw⟩ := hxc a d gs h1
      exact ⟨List.getElem?_set_self (by rw [s.len]; exact hl), hw⟩
    · rw [Zz _ _ hij] at h1
      rw [getσ hij]
      exact s.xc j a d gs h1
  own := by
    obtain ⟨ft, h⟩ := s.own
    by_cases hy : ∃ t d fs, y = .ow t d fs
    · obtain ⟨t, d, fs, rfl⟩ := hy
      obtain ⟨p, S, rfl, h1, h2, h3, h4⟩ := how ft h t d fs rfl
      refine ⟨fun j => if j = i then S else ft j, fun j t' d' fs' he => ?_, fun j k t1 t2 d1 d2 f1 f2 hjk e1 e2 a a1 a2 => ?_⟩
      · by_cases hij : i = j
        · subst hij
          have hl : i < env.length := by have := Z36 he (fun z => nomatch z); rw [Z1a] at this; exact this
          rw [Z1o hl] at he
          cases he
          refine ⟨p, List.getElem?_set_self (by rw [s.len]; exact hl), ?_⟩
          simp only [if_pos]
          exact ⟨h1, h2, h4⟩
        · rw [Zz _ _ hij] at he
          rw [getσ hij]
          simp only [if_neg (Ne.symm hij)]
          exact h.ow j t' d' fs' he
      · have key : ∀ {m : Nat} {t3 : Option Nat} {d3 : D} {f3 : List Str}, i ≠ m -> fget (fput env i (.ow t d fs)) m = .ow t3 d3 f3 -> a ∈ S -> a ∈ ft m -> False := fun {m t3 d3 f3} him e3 b1 b2 => by
          rw [Zz _ _ him] at e3
          exact h3 a b1 ⟨m, t3, d3, f3, e3, b2⟩
        by_cases hj : j = i
        · subst hj
          simp only [if_pos] at a1
          rw [if_neg (Ne.symm hjk)] at a2
          exact key hjk e2 a1 a2
        · simp only [if_neg hj] at a1
          by_cases hk : k = i
          · subst hk
            simp only [if_pos] at a2
            exact key (Ne.symm hjk) e1 a2 a1
          · simp only [if_neg hk] at a2
            rw [Zz _ _ (Ne.symm hj)] at e1
            rw [Zz _ _ (Ne.symm hk)] at e2
            exact h.dis j k t1 t2 d1 d2 f1 f2 hjk e1 e2 a a1 a2
    · have ne : ∀ {j : Nat} {t' : Option Nat} {d' : D} {fs' : List Str}, fget (fput env i y) j = .ow t' d' fs' -> i ≠ j := fun {j t' d' fs'} he hij => by
        subst hij
        have hl : i < env.length := by have := Z36 he (fun z => nomatch z); rw [Z1a] at this; exact this
        rw [Z1o hl] at he
        exact hy ⟨t', d', fs', he⟩
      refine ⟨ft, fun j t' d' fs' he => ?_, fun j k t1 t2 d1 d2 f1 f2 hjk e1 e2 => ?_⟩
      · have hij := ne he
        rw [Zz _ _ hij] at he
        rw [getσ hij]
        exact h.ow j t' d' fs' he
      · have h1 := ne e1
        have h2 := ne e2
        rw [Zz _ _ h1] at e1
        rw [Zz _ _ h2] at e2
        exact h.dis j k t1 t2 d1 d2 f1 f2 hjk e1 e2
theorem SR.setF (s : SR K B F H σ env) {i : Nat} {v : V} {d : D} (h : Dr K F v d) : SR K B F H (σ.set i (some v)) (fput env i (.fz d)) :=
  s.put i (some v) (.fz d) (fun d' e => by cases e; exact ⟨v, rfl, h⟩) (fun _ _ _ e => nomatch e) fun _ _ _ _ _ e => nomatch e
theorem SR.setU (s : SR K B F H σ env) (i : Nat) (v : Option V) : SR K B F H (σ.set i v) (fput env i .un) :=
  s.put i v .un (fun _ e => nomatch e) (fun _ _ _ e => nomatch e) fun _ _ _ _ _ e => nomatch e
def rN (K : PySem.W.Frag) (B : Bs) (F H : Hp) (σ : L2.St) (env : Fm) (v : V) (d : D) (fs : List Str) : Prop := ∃ p S, v = .ref p ∧ Own K F H p d fs S ∧ (∀ a ∈ S, F a = none ∧ (B.H0 a = none ∨ B.ps a)) ∧ ∀ ft, Hs K B F H σ env ft -> ∀ a ∈ S, ¬ owned env ft a
end
end DM
namespace HH
open PySem PySem.Spec PyProof.Rows L2 DM
abbrev Fg := PySem.W.Frag
def in0 : Value -> Bool
  | .int _ _ => true
  | _ => false
def il0 (o : Obj) : Bool := match o.data with
  | .seq its _ => match its.toList.all in0 with
    | true => match o.cls with
      | .type t => t == "list"
      | _ => false
    | false => false
  | _ => false
def nl : Fg -> Bool
  | [] => true
  | p :: r => match il0 p.2 with
    | true => false
    | false => nl r
def rf0 (bmB : List Value) : List Value -> Bool
  | .ref _ :: r => rf0 bmB r
  | l => l == bmB
def gA (K : Fg) (x : Str) : Addr := match PySem.W.nsIn K mainGlobals x with
  | some (some (.ref a)) => a
  | _ => 0
def gV (K : Fg) (x : Str) : Value := match PySem.W.nsIn K mainGlobals x with
  | some (some u) => u
  | _ => .none
def mA (K : Fg) (C : Addr) (m : Str) : Addr := match PySem.W.findIn K (.ref C) m with
  | some (some (.ref a)) => a
  | _ => 0
def sA (K : Fg) (C : Addr) (m : Str) : Addr := match PySem.W.findCls K (.ref C) (.type "type") m with
  | some (.get _ (.ref p) _ _) => p
  | _ => 0
def sB (K : Fg) (C : Addr) (m : Str) : Bool := match PySem.W.findCls K (.ref C) (.type "type") m with
  | some (.get g (.ref p) o t) => decide (g = .builtin "staticmethod.__get__") && decide (o = .none) && decide (t = .ref C)
  | _ => false
def rA (K : Fg) (p : Addr) (T : String) : Addr := match PySem.W.recIn K p T with
  | some (.ref f :: _) => f
  | _ => 0
def rR (K : Fg) (p : Addr) (T : String) : List Value := match PySem.W.recIn K p T with
  | some (_ :: r) => r
  | _ => []
def rB (K : Fg) (p : Addr) (T : String) : Bool := match PySem.W.recIn K p T with
  | some (.ref _ :: _) => true
  | _ => false
def fdA (K : Fg) (f : Addr) : FuncData := match K.lookup f with
  | some ⟨_, _, .func fd, _⟩ => fd
  | _ => default
def cdA (K : Fg) (f : Addr) : Addr := match (fdA K f).code with
  | .ref a => a
  | _ => 0
def ccA (K : Fg) (f : Addr) : Addr := match (fdA K f).closure with
  | [(_, a)] => a
  | _ => 0
abbrev FnU : Type := Option (Str × Str × Arguments × FuncBody × Scope × Addr × List Str × Addr)
def fnU (K : Fg) (f : Addr) : FnU := match K.lookup f with
  | some ⟨_, _, .func fd, _⟩ => some (fd.name, fd.qualname, fd.params, fd.body, fd.scope, fd.globals, fd.closure.map (·.1), fd.builtins)
  | _ => none
abbrev fv0 (x q : Str) (st : Stmt) : FnU := some (x, q, defArgs st, .stmts (defBody st), defScope st, mainGlobals, [], builtinsNs)
abbrev fv1 (x q : Str) (st : Stmt) : FnU := some (x, q, defArgs st, .stmts (defBody st), defScope st, mainGlobals, [("__class__" : Str)], builtinsNs)
def fnB (K : Fg) (f : Addr) (q : Str) (dvs : List V) : Bool := PySem.W.keepIn K (.ref f) && (match K.lookup f with
  | some ⟨_, _, .func fd, _⟩ => PySem.W.codeIn K fd.code q && He.dflB K fd.defaults dvs
  | _ => false)
def kfB (K : Fg) (f Dc : Addr) (q file : Str) : Bool := (match K.lookup f with
  | some ⟨_, _, .func fd, _⟩ => (match fd.defaults, fd.kwdefaults, fd.code with
    | .none, .none, .ref _ => true
    | _, _, _ => false)
  | _ => false) && (PySem.W.codeIn K (.ref (cdA K f)) q && ((match K.lookup (ccA K f) with
  | some ⟨_, _, .cell (some (.ref d)), _⟩ => decide (d = Dc)
  | _ => false) && ((match K.lookup (cdA K f) with
  | some ⟨_, _, .fields vs, _⟩ => (match vs[2]? with
    | some (Value.str z _) => (file == z)
    | _ => false)
  | _ => false) && (PySem.W.clsIn K Dc).isSome)))
def exB (K : Fg) (C : Addr) (bmB : List Value) (newId : String) : Bool := match K.lookup C with
  | some ⟨.type t, _, .cls cd, sl⟩ => (match cd.mro, sl.toList with
    | .ref C' :: bm, [_, _, _, _, some (.builtin n), _] => decide (t = "type") && decide (C' = C) && decide (n = newId) && !cd.hasDel && cd.hasDict && rf0 bmB bm
    | _, _ => false)
  | _ => false
def erB (K : Fg) (C fI : Addr) (B newId i : String) (bmB : List Value) : Bool :=
  exB K C bmB newId && (decide (PySem.W.subIn K (.ref C) (.type B) = some true) && (decide (PySem.W.ks_superIn K C C "__init__" = some (some (.builtin i))) && (decide (PySem.W.findIn K (.ref C) "__setattr__" = some (some (.builtin "object.__setattr__"))) && (decide (PySem.W.findIn K (.ref C) "__init__" = some (some (.ref fI))) && (decide (PySem.W.typeIn K (.ref fI) = some (.type "function")) && (PySem.W.keepIn K (.ref C) &&
    (decide (PySem.W.subIn K (.ref C) (.ref C) = some true) && (decide (PySem.W.subIn K (.ref C) (.type "BaseException") = some true) && decide (PySem.W.typeIn K (.ref C) = some (.type "type"))))))))))
def all2 (f : Value -> D -> Bool) : List Value -> List D -> Bool
  | [], [] => true
  | u :: us, d :: ds => f u d && all2 f us ds
  | _, _ => false
def relD : Nat -> Fg -> Value -> D -> Bool
  | 0, _, _, _ => false
  | n + 1, K, u, d => (match u, d with
    | .none, .non => true
    | .bool b, .bl c => decide (b = c)
    | .int i _, .int j => decide (i = j)
    | .str x _, .str y => decide (x = y)
    | .ref a, .tup ds => (match K.lookup a with
      | some ⟨.type t, none, .seq its _, _⟩ => decide (t = "tuple") && (Nat.ble its.toList.length 1000 && all2 (relD n K) its.toList ds)
      | _ => false)
    | _, _ => false)
structure FD where
  at_ : Fg -> Addr
  v : FnU
abbrev Tb : Type := (Fg -> Addr) × List Str
abbrev Al : Type := Bool × List FnU × List (Option (List (Option (Str × Int))))
def obsK (fa : List (List (Fg -> Bool))) (fn : List FD) (ts : List Tb) (K : Fg) : Al := (fa.all fun c => c.all fun f => f K, fn.map fun d => fnU K (d.at_ K), ts.map fun t => He.dicW K (t.1 K))
def valK (fn : List FD) (ts : List Tb) (w : World) : Al := (true, fn.map (·.v), ts.map fun t => some (He.keysIn w.params t.2))
def Says (fa : List (List (Fg -> Bool))) (fn : List FD) (ts : List Tb) (w : World) (K : Fg) : Prop := obsK fa fn ts K = valK fn ts w
def allA : Nat -> List Addr
  | 0 => []
  | n + 1 => n :: allA n
def hookK (fa : List (List (Fg -> Bool))) (fn : List FD) (ts : List Tb) : PySem.W.Hook where
  α := Al
  obs := fun s => obsK fa fn ts (He.frG s.heap.get? (mainGlobals :: cStatics :: allA s.heap.objs.size))
  val := fun w => valK fn ts w
  says := fun w h => ∃ K : Fg, K.In h ∧ Says fa fn ts w K
  of := fun _ _ e => ⟨_, He.frG_in, e⟩
  keeps := fun _ _ _ ⟨K, hK, c⟩ k => ⟨K, PySem.W.Frag.In.keeps hK k, c⟩
def obK (fa : List (List (Fg -> Bool))) (fn : List FD) (ts : List Tb) (s : PySem.W.SharedT) : Al := obsK fa fn ts (He.frG (HandSHeadRun.getT s) (mainGlobals :: cStatics :: allA s.n))
theorem obK_eq (fa : List (List (Fg -> Bool))) (fn : List FD) (ts : List Tb) (s : PySem.W.SharedT) : obK fa fn ts s = (hookK fa fn ts).obs s.abs := by
  have e : HandSHeadRun.getT s = s.abs.heap.get? := funext fun a => HandSHeadRun.getT_eq s a
  unfold obK
  rw [e]
  have e2 : s.n = s.abs.heap.objs.size := (PySem.W.absHeap_size s.tree s.n s.life).symm
  rw [e2]
  rfl
section
open HandSHeadRun PySem.W
variable {r : OpenRow} {q : Program} {M : Nat} {loose : List Str} {w : World} {fa : List (List (Fg -> Bool))} {fn : List FD} {ts : List Tb}
abbrev Ob (r : OpenRow) (M : Nat) (w : World) {α : Type} (ob : SharedT -> α) (v : α) : Prop := ∀ os : OsState, (endF (stepQ (denQ tabQ) r.prog w) M r.prog w os).map ob = some v
theorem run_join {H : Hook} {ob : SharedT -> H.α} (h0 : RunEq r q Hook.none (fun _ => ()) M loose w) (h1 : Ob r M w ob (H.val w)) : RunEq r q H ob M loose w := fun os => by
  obtain ⟨s, e, v⟩ := Option.map_eq_some_iff.mp (h0 os)
  have e1 := h1 os
  rw [e] at e1 ⊢
  have e1 : ob s = H.val w := Option.some.inj e1
  obtain ⟨v1, v2⟩ := Prod.mk.inj v
  obtain ⟨v2, _⟩ := Prod.mk.inj v2
  show some (_, _, ob s) = _
  rw [e1, v1, v2]
theorem ob_pair {α β : Type} {f : SharedT -> α × β} {a : α} {b : β} (h1 : Ob r M w (fun s => (f s).1) a) (h2 : Ob r M w (fun s => (f s).2) b) : Ob r M w f (a, b) := fun os => by
  obtain ⟨s, e, v⟩ := Option.map_eq_some_iff.mp (h1 os)
  have e2 := h2 os
  rw [e] at e2 ⊢
  have e2 : (f s).2 = b := Option.some.inj e2
  show some (f s) = _
  rw [← v, ← e2]
end
end HH
namespace K56
open PySem PySem.Spec PyProof.Rows L2 DM
noncomputable section
def topS (i : Nat) : Stmt := PySem.Challenge.pw_pulledout_k56_whole_plain_books_in_plays.main.body.getD i (.Pass ⟨0, 0, 0, 0⟩)
def clsS (i j : Nat) : Stmt := match topS i with
  | .ClassDef _ _ _ body .. => body.getD j (.Pass ⟨0, 0, 0, 0⟩)
  | s => s
def gDOWN : D := .str "down"
def gEMPTY : D := .str "empty"
def gKEPT : D := .str "kept"
def gLET : D := .str "let"
def gLOCK : D := .str "lock"
def gMARK : D := .str "mark"
def gOUT : D := .str "out"
def gPULLS : D := .tup [.str "out", .str "mark", .str "wait", .str "empty", .str "down", .str "let", .str "lock", .str "unlock"]
def gSTUCK : D := .str "stuck"
def gTOUCHED : D := .str "touched"
def gUNLOCK : D := .str "unlock"
def gUSED : D := .str "used"
def gWAIT : D := .str "wait"
def kASKS : List Str := ["in", "ahead", "none", "locked"]
def kOPENS : List Str := ["bare", "tried", "locked"]
abbrev nG (K : PySem.W.Frag) (x : Str) (a : Addr) : Prop := PySem.W.nsIn K mainGlobals x = some (some (.ref a))
abbrev nN (K : PySem.W.Frag) (x : Str) : Prop := PySem.W.nsIn K mainGlobals x = some none
abbrev fI (K : PySem.W.Frag) (c : Addr) (x : Str) (a : Addr) : Prop := PySem.W.findIn K (.ref c) x = some (some (.ref a))
abbrev fN (K : PySem.W.Frag) (c : Addr) (x : Str) : Prop := PySem.W.findIn K (.ref c) x = some none
abbrev fB (K : PySem.W.Frag) (c : Addr) (x : Str) (y : String) : Prop := PySem.W.findIn K (.ref c) x = some (some (.builtin y))
abbrev iF (K : PySem.W.Frag) (a : Addr) : Bool := PySem.W.isFn K (.ref a)
abbrev Fu (K : PySem.W.Frag) (x : Str) (st : Stmt) (f : Addr) (fd : FuncData) : Prop := Fun K x x st f fd
abbrev hC (x y : Str) (K : HH.Fg) : Addr := HH.mA K (HH.gA K x) y
abbrev hI (a b c d : Str) : HH.Fg -> Bool := fun K => decide (fI K (HH.gA K a) b (hC c d K))
abbrev hG (a b : Str) : HH.Fg -> Bool := fun K => decide (nG K a (HH.gA K b))
abbrev hN (a b : Str) : HH.Fg -> Bool := fun K => decide (fN K (HH.gA K a) b)
abbrev hB (a b : Str) (c : String) : HH.Fg -> Bool := fun K => decide (fB K (HH.gA K a) b c)
abbrev hV (a : Str) : HH.Fg -> Bool := fun K => decide (PySem.W.nsIn K mainGlobals a = some (some (HH.gV K a)))
abbrev hO (a : Str) : HH.Fg -> Bool := fun K => decide (nN K a)
abbrev hS (a b : Str) : HH.Fg -> Bool := fun K => iF K (hC a b K)
abbrev hF (a b : Str) : HH.Fg -> Bool := fun K => HH.fnB K (HH.gA K a) b []
abbrev hM (a b c : Str) : HH.Fg -> Bool := fun K => HH.fnB K (hC a b K) c []
abbrev Z3p : Stmt := topS 32
abbrev Z42 : Stmt := clsS 31 11
abbrev Z3s : Stmt := clsS 31 12
abbrev Z4p : Stmt := clsS 31 13
abbrev Z30 : Stmt := clsS 31 14
abbrev Zt : Stmt := clsS 31 18
abbrev Z31 : Stmt := clsS 31 17
abbrev Z2c : Stmt := clsS 31 15
abbrev Z2e : Stmt := clsS 31 16
abbrev Z27 : Stmt := clsS 31 19
abbrev Z4i : Stmt := topS 30
abbrev Z32 : Stmt := clsS 31 0
abbrev Z62 : Stmt := clsS 31 1
abbrev Z4m : Stmt := topS 39
abbrev Z59 : Stmt := topS 38
abbrev Z48 : Stmt := topS 40
abbrev Z5d : Stmt := topS 36
abbrev Z58 : Stmt := topS 37
abbrev Z4l : Stmt := topS 58
abbrev Z2z : Stmt := topS 59
abbrev Z1k : Stmt := topS 60
abbrev Z2q : Stmt := topS 61
abbrev Z3r : Stmt := topS 34
abbrev Z57 : Stmt := topS 35
abbrev Z2p : Stmt := topS 57
abbrev Z5e : Stmt := topS 42
abbrev Z3w : Stmt := topS 45
abbrev Z4k : Stmt := topS 50
abbrev Z3q : Stmt := topS 51
abbrev Z5c : Stmt := topS 52
abbrev Z61 : Stmt := topS 53
abbrev Z4o : Stmt := topS 54
abbrev Z5b : Stmt := topS 48
abbrev Z4n : Stmt := topS 49
abbrev Z3x : Stmt := topS 41
abbrev Z5a : Stmt := topS 56
abbrev Z47 : Stmt := topS 44
abbrev Z3v : Stmt := topS 43
abbrev Z2d : Stmt := topS 46
abbrev Z4j : Stmt := topS 47
abbrev Z1j : Stmt := topS 55
abbrev Z2y : Stmt := topS 62
abbrev Zbt : Stmt := topS 63
end
end K56
namespace K56
open PySem PySem.Spec PyProof.Rows L2 DM
def fas0 : List (HH.Fg -> Bool) := [fun K => HH.nl K,
 hG "Plain" "Plain",
 fun K => PySem.W.plainGet K (HH.gA K "Plain") Str.empty,
 fun K => PySem.W.hasDictIn K (HH.gA K "Plain"),
 fun K => PySem.W.plainOver K (HH.gA K "Plain"),
 hB "Plain" "__setattr__" "object.__setattr__",
 hN "Plain" "own_asks",
 hN "Plain" "own_opens",
 hN "Plain" "own_pulls",
 hG "require_pull" "require_pull",
 hF "require_pull" "require_pull",
 hI "Plain" "ahead" "Plain" "ahead",
 hS "Plain" "ahead",
 hM "Plain" "ahead" "Plain.ahead",
 hI "Plain" "behind" "Plain" "behind",
 hS "Plain" "behind",
 hM "Plain" "behind" "Plain.behind",
 hI "Plain" "gaps" "Plain" "gaps",
 hS "Plain" "gaps",
 hM "Plain" "gaps" "Plain.gaps",
 hI "Plain" "openings" "Plain" "openings",
 hS "Plain" "openings",
 hM "Plain" "openings" "Plain.openings",
 hI "Plain" "uses_behind_let" "Plain" "uses_behind_let",
 hS "Plain" "uses_behind_let",
 hM "Plain" "uses_behind_let" "Plain.uses_behind_let",
 hI "Plain" "is_stuck" "Plain" "is_stuck",
 hS "Plain" "is_stuck",
 hM "Plain" "is_stuck" "Plain.is_stuck",
 hI "Plain" "is_touched" "Plain" "is_touched"]
def fas1 : List (HH.Fg -> Bool) := [hS "Plain" "is_touched",
 hM "Plain" "is_touched" "Plain.is_touched",
 hI "Plain" "is_used" "Plain" "is_used",
 hS "Plain" "is_used",
 hM "Plain" "is_used" "Plain.is_used",
 hI "Plain" "faults" "Plain" "faults",
 hS "Plain" "faults",
 hM "Plain" "faults" "Plain.faults",
 hG "wrong_pull" "wrong_pull",
 hF "wrong_pull" "wrong_pull",
 hI "Plain" "__init__" "Plain" "__init__",
 hS "Plain" "__init__",
 fun K => PySem.W.makesIn K (HH.gA K "Plain"),
 fun K => PySem.W.keepIn K (.ref (HH.gA K "Plain")),
 hM "Plain" "__init__" "Plain.__init__",
 fun K => PySem.W.readsIn K (HH.gA K "Plain") (.type "type"),
 fun K => decide (PySem.W.specialIn K (.ref (HH.gA K "Plain")) "__getattribute__" = some (some (.builtin "type.__getattribute__"))),
 fun K => HH.sB K (HH.gA K "Plain") "of",
 fun K => HH.rB K (HH.sA K (HH.gA K "Plain") "of") "staticmethod",
 fun K => HH.fnB K (HH.rA K (HH.sA K (HH.gA K "Plain") "of") "staticmethod") "Plain.of" [],
 hG "_law_flags" "_law_flags",
 hF "_law_flags" "_law_flags",
 hG "_law_laid" "_law_laid",
 hF "_law_laid" "_law_laid",
 hG "_law_case" "_law_case",
 hF "_law_case" "_law_case",
 hG "_law_draw" "_law_draw",
 hF "_law_draw" "_law_draw",
 hG "_law_pick" "_law_pick",
 hF "_law_pick" "_law_pick"]
def fas2 : List (HH.Fg -> Bool) := [hG "_law_kinds" "_law_kinds",
 hF "_law_kinds" "_law_kinds",
 hG "_law_plain_row" "_law_plain_row",
 hF "_law_plain_row" "_law_plain_row",
 hG "_law_plain_steps" "_law_plain_steps",
 hF "_law_plain_steps" "_law_plain_steps",
 hG "_law_plain_plan" "_law_plain_plan",
 hF "_law_plain_plan" "_law_plain_plan",
 hG "_law_numbers" "_law_numbers",
 hF "_law_numbers" "_law_numbers",
 hG "_law_pool" "_law_pool",
 hF "_law_pool" "_law_pool",
 hG "_law_pull_words" "_law_pull_words",
 hF "_law_pull_words" "_law_pull_words",
 hG "_law_done" "_law_done",
 hF "_law_done" "_law_done",
 hG "_law_freed" "_law_freed",
 hF "_law_freed" "_law_freed",
 hG "_law_later" "_law_later",
 hF "_law_later" "_law_later",
 hG "_law_started" "_law_started",
 hF "_law_started" "_law_started",
 hG "_law_gone" "_law_gone",
 hF "_law_gone" "_law_gone",
 hG "_law_ran" "_law_ran",
 hF "_law_ran" "_law_ran",
 hG "_law_after" "_law_after",
 hF "_law_after" "_law_after",
 hG "_law_item" "_law_item",
 hF "_law_item" "_law_item"]
def fas3 : List (HH.Fg -> Bool) := [hG "_law_fault" "_law_fault",
 hF "_law_fault" "_law_fault",
 hG "_law_first" "_law_first",
 hF "_law_first" "_law_first",
 hG "_law_kept" "_law_kept",
 hF "_law_kept" "_law_kept",
 hG "_law_here" "_law_here",
 hF "_law_here" "_law_here",
 hG "_law_pulls" "_law_pulls",
 hF "_law_pulls" "_law_pulls",
 hG "_law_waits" "_law_waits",
 hF "_law_waits" "_law_waits",
 hG "_law_moves" "_law_moves",
 hF "_law_moves" "_law_moves",
 hG "_law_stuck" "_law_stuck",
 hF "_law_stuck" "_law_stuck",
 hG "_law_words_met" "_law_words_met",
 hF "_law_words_met" "_law_words_met",
 hG "law" "law",
 hF "law" "law",
 hO "any",
 hO "enumerate",
 hO "int",
 hO "isinstance",
 hO "len",
 hO "list",
 hO "max",
 hO "min",
 hO "range",
 hO "set"]
def fas4 : List (HH.Fg -> Bool) := [hO "sorted",
 hO "str",
 hO "tuple",
 hO "zip",
 hV "DOWN",
 fun K => HH.relD 6 K (HH.gV K "DOWN") gDOWN,
 hV "EMPTY",
 fun K => HH.relD 6 K (HH.gV K "EMPTY") gEMPTY,
 hV "KEPT",
 fun K => HH.relD 6 K (HH.gV K "KEPT") gKEPT,
 hV "LET",
 fun K => HH.relD 6 K (HH.gV K "LET") gLET,
 hV "LOCK",
 fun K => HH.relD 6 K (HH.gV K "LOCK") gLOCK,
 hV "MARK",
 fun K => HH.relD 6 K (HH.gV K "MARK") gMARK,
 hV "OUT",
 fun K => HH.relD 6 K (HH.gV K "OUT") gOUT,
 hV "PULLS",
 fun K => HH.relD 6 K (HH.gV K "PULLS") gPULLS,
 hV "STUCK",
 fun K => HH.relD 6 K (HH.gV K "STUCK") gSTUCK,
 hV "TOUCHED",
 fun K => HH.relD 6 K (HH.gV K "TOUCHED") gTOUCHED,
 hV "UNLOCK",
 fun K => HH.relD 6 K (HH.gV K "UNLOCK") gUNLOCK,
 hV "USED",
 fun K => HH.relD 6 K (HH.gV K "USED") gUSED,
 hV "WAIT",
 fun K => HH.relD 6 K (HH.gV K "WAIT") gWAIT]
def fas5 : List (HH.Fg -> Bool) := [hG "ASKS" "ASKS",
 hG "OPENS" "OPENS",
 fun K => HH.kfB K (HH.mA K (HH.gA K "InvalidOption") "__init__") (HH.gA K "InvalidOption") "InvalidOption.__init__" "/claim/cut.py",
 hG "InvalidOption" "InvalidOption",
 fun K => HH.erB K (HH.gA K "InvalidOption") (HH.mA K (HH.gA K "InvalidOption") "__init__") "ValueError" "ValueError.__new__" "ValueError.__init__" [.type "ValueError", .type "Exception", .type "BaseException", .type "object"],
 hN "InvalidOption" "value",
 fun K => decide (PySem.W.nsIn K cStatics "thirdparty.any" = some none),
 hO "super",
 fun K => HH.kfB K (HH.mA K (HH.gA K "InvalidStep") "__init__") (HH.gA K "InvalidStep") "InvalidStep.__init__" "/claim/cut.py",
 hG "InvalidStep" "InvalidStep",
 fun K => HH.erB K (HH.gA K "InvalidStep") (HH.mA K (HH.gA K "InvalidStep") "__init__") "ValueError" "ValueError.__new__" "ValueError.__init__" [.type "ValueError", .type "Exception", .type "BaseException", .type "object"],
 hN "InvalidStep" "index",
 fun K => HH.kfB K (HH.mA K (HH.gA K "UnknownName") "__init__") (HH.gA K "UnknownName") "UnknownName.__init__" "/claim/cut.py",
 hG "UnknownName" "UnknownName",
 fun K => HH.erB K (HH.gA K "UnknownName") (HH.mA K (HH.gA K "UnknownName") "__init__") "LookupError" "LookupError.__new__" "LookupError.__init__" [.type "LookupError", .type "Exception", .type "BaseException", .type "object"],
 hN "UnknownName" "name"]
def Zq5 : List (List (HH.Fg -> Bool)) := [fas0, fas1, fas2, fas3, fas4, fas5]
def fas : List (List (HH.Fg -> Bool)) := Zq5
def Zn7 : List HH.FD := [⟨(HH.gA · "require_pull"), HH.fv0 "require_pull" "require_pull" Z3p⟩,
 ⟨hC "Plain" "ahead", HH.fv0 "ahead" "Plain.ahead" Z42⟩,
 ⟨hC "Plain" "behind", HH.fv0 "behind" "Plain.behind" Z3s⟩,
 ⟨hC "Plain" "gaps", HH.fv0 "gaps" "Plain.gaps" Z4p⟩,
 ⟨hC "Plain" "openings", HH.fv0 "openings" "Plain.openings" Z30⟩,
 ⟨hC "Plain" "uses_behind_let", HH.fv0 "uses_behind_let" "Plain.uses_behind_let" Zt⟩,
 ⟨hC "Plain" "is_stuck", HH.fv0 "is_stuck" "Plain.is_stuck" Z31⟩,
 ⟨hC "Plain" "is_touched", HH.fv0 "is_touched" "Plain.is_touched" Z2c⟩,
 ⟨hC "Plain" "is_used", HH.fv0 "is_used" "Plain.is_used" Z2e⟩,
 ⟨hC "Plain" "faults", HH.fv0 "faults" "Plain.faults" Z27⟩,
 ⟨(HH.gA · "wrong_pull"), HH.fv0 "wrong_pull" "wrong_pull" Z4i⟩,
 ⟨hC "Plain" "__init__", HH.fv0 "__init__" "Plain.__init__" Z32⟩,
 ⟨fun K => (HH.rA K (HH.sA K (HH.gA K "Plain") "of") "staticmethod"), HH.fv0 "of" "Plain.of" Z62⟩,
 ⟨(HH.gA · "_law_flags"), HH.fv0 "_law_flags" "_law_flags" Z4m⟩,
 ⟨(HH.gA · "_law_laid"), HH.fv0 "_law_laid" "_law_laid" Z59⟩,
 ⟨(HH.gA · "_law_case"), HH.fv0 "_law_case" "_law_case" Z48⟩,
 ⟨(HH.gA · "_law_draw"), HH.fv0 "_law_draw" "_law_draw" Z5d⟩,
 ⟨(HH.gA · "_law_pick"), HH.fv0 "_law_pick" "_law_pick" Z58⟩,
 ⟨(HH.gA · "_law_kinds"), HH.fv0 "_law_kinds" "_law_kinds" Z4l⟩,
 ⟨(HH.gA · "_law_plain_row"), HH.fv0 "_law_plain_row" "_law_plain_row" Z2z⟩,
 ⟨(HH.gA · "_law_plain_steps"), HH.fv0 "_law_plain_steps" "_law_plain_steps" Z1k⟩,
 ⟨(HH.gA · "_law_plain_plan"), HH.fv0 "_law_plain_plan" "_law_plain_plan" Z2q⟩,
 ⟨(HH.gA · "_law_numbers"), HH.fv0 "_law_numbers" "_law_numbers" Z3r⟩,
 ⟨(HH.gA · "_law_pool"), HH.fv0 "_law_pool" "_law_pool" Z57⟩,
 ⟨(HH.gA · "_law_pull_words"), HH.fv0 "_law_pull_words" "_law_pull_words" Z2p⟩,
 ⟨(HH.gA · "_law_done"), HH.fv0 "_law_done" "_law_done" Z5e⟩,
 ⟨(HH.gA · "_law_freed"), HH.fv0 "_law_freed" "_law_freed" Z3w⟩,
 ⟨(HH.gA · "_law_later"), HH.fv0 "_law_later" "_law_later" Z4k⟩,
 ⟨(HH.gA · "_law_started"), HH.fv0 "_law_started" "_law_started" Z3q⟩,
 ⟨(HH.gA · "_law_gone"), HH.fv0 "_law_gone" "_law_gone" Z5c⟩,
 ⟨(HH.gA · "_law_ran"), HH.fv0 "_law_ran" "_law_ran" Z61⟩,
 ⟨(HH.gA · "_law_after"), HH.fv0 "_law_after" "_law_after" Z4o⟩,
 ⟨(HH.gA · "_law_item"), HH.fv0 "_law_item" "_law_item" Z5b⟩,
 ⟨(HH.gA · "_law_fault"), HH.fv0 "_law_fault" "_law_fault" Z4n⟩,
 ⟨(HH.gA · "_law_first"), HH.fv0 "_law_first" "_law_first" Z3x⟩,
 ⟨(HH.gA · "_law_kept"), HH.fv0 "_law_kept" "_law_kept" Z5a⟩,
 ⟨(HH.gA · "_law_here"), HH.fv0 "_law_here" "_law_here" Z47⟩,
 ⟨(HH.gA · "_law_pulls"), HH.fv0 "_law_pulls" "_law_pulls" Z3v⟩,
 ⟨(HH.gA · "_law_waits"), HH.fv0 "_law_waits" "_law_waits" Z2d⟩,
 ⟨(HH.gA · "_law_moves"), HH.fv0 "_law_moves" "_law_moves" Z4j⟩,
 ⟨(HH.gA · "_law_stuck"), HH.fv0 "_law_stuck" "_law_stuck" Z1j⟩,
 ⟨(HH.gA · "_law_words_met"), HH.fv0 "_law_words_met" "_law_words_met" Z2y⟩,
 ⟨(HH.gA · "law"), HH.fv0 "law" "law" Zbt⟩,
 ⟨hC "InvalidOption" "__init__", HH.fv1 "__init__" "InvalidOption.__init__" (clsS 4 0)⟩,
 ⟨hC "InvalidStep" "__init__", HH.fv1 "__init__" "InvalidStep.__init__" (clsS 3 0)⟩,
 ⟨hC "UnknownName" "__init__", HH.fv1 "__init__" "UnknownName.__init__" (clsS 5 0)⟩]
def fns : List HH.FD := Zn7
def tabs : List HH.Tb := [(fun K => HH.gA K "ASKS", kASKS), (fun K => HH.gA K "OPENS", kOPENS)]
def names0 : List PySem.Str := ["_wall", "PullError", "InvalidStep", "InvalidOption", "UnknownName", "LOOK", "HOLD", "TRY", "LET", "ENTER", "LEAVE", "TOUCH", "LOCK", "UNLOCK", "ASK", "OUT", "MARK", "WAIT", "EMPTY", "DOWN", "TOUCHED", "USED", "STUCK", "KEPT", "GONE", "OPENS", "ASKS", "PULLS", "wrong_pull", "Plain"]
def names1 : List PySem.Str := ["require_pull", "_law_numbers", "_law_pool", "_law_draw", "_law_pick", "_law_laid", "_law_flags", "_law_case", "_law_first", "_law_done", "_law_pulls", "_law_here", "_law_freed", "_law_waits", "_law_moves", "_law_item", "_law_fault", "_law_later", "_law_started", "_law_gone", "_law_ran", "_law_after", "_law_stuck", "_law_kept", "_law_pull_words", "_law_kinds", "_law_plain_row", "_law_plain_steps", "_law_plain_plan", "_law_words_met"]
def names : List PySem.Str := names0 ++ names1
abbrev RWR : PySem.W.OpenRow := PySem.W.OpenLaw.row PySem.Challenge.rw_pulledout_k56_whole_plain_books_in_plays
abbrev qv : Program := PySem.W.view RWR.prog [63]
abbrev R0 (w : World) : Prop := HandSHeadRun.RunEq RWR qv PySem.W.Hook.none (fun _ => ()) 20000 names w
theorem Zrb (w : World) : R0 (w.withFollow "special-get-raises" false) := by
  intro os
  kernel_rfl
theorem Zra (w : World) : R0 (w.withFollow "special-get-raises" true) := by
  intro os
  kernel_rfl
abbrev A0 (w : World) : Prop := HH.Ob RWR 20000 w (fun s => (HH.obK Zq5 fns tabs s).1) true
theorem Zom (w : World) : A0 (w.withFollow "special-get-raises" false) := by
  intro os
  kernel_rfl
theorem Zol (w : World) : A0 (w.withFollow "special-get-raises" true) := by
  intro os
  kernel_rfl
abbrev F0 (w : World) : Prop := HH.Ob RWR 20000 w (fun s => (HH.obK [] Zn7 tabs s).2) (HH.valK Zn7 tabs w).2
theorem Zok (w : World) : F0 (w.withFollow "special-get-raises" false) := by
  intro os
  kernel_rfl
theorem Zoj (w : World) : F0 (w.withFollow "special-get-raises" true) := by
  intro os
  kernel_rfl
theorem run (w : World) : HandSHeadRun.RunEq RWR qv (HH.hookK fas fns tabs) (HH.obK fas fns tabs) 20000 names w := HH.run_join (PySem.W.byRow2 "special-get-raises" (P := R0) Zrb Zra w) (HH.ob_pair (PySem.W.byRow2 "special-get-raises" (P := A0) Zom Zol w) (PySem.W.byRow2 "special-get-raises" (P := F0) Zok Zoj w))
end K56
namespace DM
open PySem L2 DL
section
variable {K : PySem.W.Frag} {B : Bs} {F H F' H' : Hp} {σ σ' : L2.St} {env env' : Fm} {ft : Nat -> List Addr}
inductive Wk : Fm -> Fm -> Prop
  | nil : Wk [] []
  | k {x : Sl} {xs ys : Fm} : Wk xs ys -> Wk (x :: xs) (x :: ys)
  | d {x : Sl} {xs ys : Fm} : Wk xs ys -> Wk (x :: xs) (.un :: ys)
theorem Wk.refl : ∀ env : Fm, Wk env env
  | [] => .nil
  | _ :: xs => .k (Wk.refl xs)
theorem Wk.trans : ∀ {a b c : Fm}, Wk a b -> Wk b c -> Wk a c
  | _, _, _, .nil, h => h
  | _, _, _, .k h, .k h2 => .k (h.trans h2)
  | _, _, _, .k h, .d h2 => .d (h.trans h2)
  | _, _, _, .d h, .k h2 => .d (h.trans h2)
  | _, _, _, .d h, .d h2 => .d (h.trans h2)
theorem Wk.length {a b : Fm} (h : Wk a b) : a.length = b.length := by
  induction h with
  | nil => rfl
  | k _ ih => simp [ih]
  | d _ ih => simp [ih]
theorem Wk.get {a b : Fm} (h : Wk a b) : ∀ i, fget b i = fget a i ∨ fget b i = .un := by
  induction h with
  | nil => exact fun i => .inl rfl
  | k _ ih => exact fun i => match i with
    | 0 => .inl rfl
    | i + 1 => ih i
  | d _ ih => exact fun i => match i with
    | 0 => .inr rfl
    | i + 1 => ih i
theorem Wk.at {a b : Fm} (h : Wk a b) {i : Nat} {x : Sl} (e : fget b i = x) (n : x ≠ .un) : fget a i = x := by
  rcases h.get i with z | z
  · rw [← z]; exact e
  · rw [e] at z; exact absurd z n
theorem Wk.put {a b : Fm} (h : Wk a b) (i : Nat) (y : Sl) (hi : fget b i = .un) : Wk (fput a i y) b := by
  induction h generalizing i with
  | nil => exact .nil
  | k h ih =>
    cases i with
    | zero => cases hi; exact .d h
    | succ i => exact .k (ih i hi)
  | d h ih =>
    cases i with
    | zero => exact .d h
    | succ i => exact .d (ih i hi)
theorem Wk.un : ∀ (a : Fm) (i : Nat), Wk a (fput a i .un)
  | [], _ => .nil
  | x :: xs, 0 => .d (Wk.refl xs)
  | x :: xs, i + 1 => .k (Wk.un xs i)
theorem Z75 : ∀ (a : Fm) (i : Nat) (x y : Sl), fput (fput a i x) i y = fput a i y
  | [], _, _, _ => rfl
  | _ :: _, 0, _, _ => rfl
  | z :: xs, i + 1, x, y => by show z :: _ = z :: _; rw [Z75 xs i x y]
theorem set_same {i : Nat} {v : Option V} (h1 : σ[i]? = some v) : σ.set i v = σ := List.ext_getElem? fun j => by
  by_cases hij : i = j
  · subst hij
    rw [h1]
    exact List.getElem?_set_self (List.getElem?_eq_some_iff.mp h1).1
  · rw [List.getElem?_set_ne hij]
theorem Hs.wk (h : Hs K B F H σ env ft) (w : Wk env env') : Hs K B F H σ env' ft :=
  ⟨fun i t d fs e => h.ow i t d fs (w.at e fun z => nomatch z), fun i j t u d e fs gs hij e1 e2 => h.dis i j t u d e fs gs hij (w.at e1 fun z => nomatch z) (w.at e2 fun z => nomatch z)⟩
theorem SR.wk (s : SR K B F H σ env) (w : Wk env env') : SR K B F H σ env' where
  ex := s.ex
  ex0 := s.ex0
  keep := s.keep
  newF := s.newF
  len := s.len.trans w.length
  fz := fun i d e => s.fz i d (w.at e fun z => nomatch z)
  xc := fun i a d gs e => s.xc i a d gs (w.at e fun z => nomatch z)
  own := s.own.imp fun ft h => h.wk w
theorem SR.lay (s : SR K B F H σ env) {S : List Addr} (hS : ∀ a ∈ S, F a = none ∧ (B.H0 a = none ∨ B.ps a)) (hn : ∃ ft, Hs K B F H σ env ft ∧ ∀ a ∈ S, ¬ owned env ft a) : SR K B (lay F H S) H σ env := by
  have hx : Ex F (DM.lay F H S) := Zce fun a ha => (hS a ha).1
  refine ⟨Zpi s.ex, s.ex0.trans hx, s.keep, fun a o h => ?_, s.len, fun i d e => ?_, fun i a d gs e => ?_, ?_⟩
  · by_cases z : a ∈ S
    · exact Or.inr (hS a z).2
    · rw [Zat z] at h; exact s.newF a o h
  · obtain ⟨v, q1, q2⟩ := s.fz i d e
    exact ⟨v, q1, q2.mono hx⟩
  · obtain ⟨h1, fs, h2, h3, h4⟩ := s.xc i a d gs e
    exact ⟨h1, fs, hx _ _ h2, h3, h4.mono hx⟩
  · obtain ⟨ft, h, hn⟩ := hn
    refine ⟨ft, h.congr hx fun a ha => ⟨rfl, ?_⟩⟩
    rw [Zat fun z => hn a z ha]
    exact (h.owned_b ha).1
theorem SR.frzN (s : SR K B F H σ env) {v : V} {d : D} {fs : List Str} (h : rN K B F H σ env v d fs) : ∃ F', Ex F F' ∧ Dr K F' v d ∧ SR K B F' H σ env := by
  obtain ⟨p, S, rfl, h2, h3, h4⟩ := h
  obtain ⟨ft, hf⟩ := s.own
  refine ⟨DM.lay F H S, Zce fun a ha => (h3 a ha).1, h2.still (Zce fun a ha => (h3 a ha).1) fun a ha => Zet ha, s.lay h3 ⟨ft, hf, h4 ft hf⟩⟩
theorem SR.frz (s : SR K B F H σ env) {i : Nat} {t : Option Nat} {d : D} {fs : List Str} (he : fget env i = .ow t d fs) : ∃ v F', Ex F F' ∧ σ[i]? = some (some v) ∧ Dr K F' v d ∧ SR K B F' H σ (fput env i (.fz d)) := by
  obtain ⟨ft, hf⟩ := s.own
  obtain ⟨p, h1, h2, h3, h4⟩ := hf.ow i t d fs he
  have hx : Ex F (DM.lay F H (ft i)) := Zce fun a ha => (h3 a ha).1
  have hd : Dr K (DM.lay F H (ft i)) (.ref p) d := h2.still hx fun a ha => Zet ha
  have s1 : SR K B F H σ (fput env i .un) := s.wk (Wk.un env i)
  have hn : ∀ a ∈ ft i, ¬ owned (fput env i .un) ft a := fun a ha ⟨j, t', d', fs', e1, e2⟩ => by
    by_cases hij : i = j
    · subst hij
      rcases Z7p env (i := i) .un with z | z <;> (rw [z] at e1; cases e1)
    · rw [Zz _ _ hij] at e1
      exact hf.dis i j t t' d d' fs fs' hij he e1 a ha e2
  have s2 := s1.lay h3 ⟨ft, hf.wk (Wk.un env i), hn⟩
  refine ⟨.ref p, DM.lay F H (ft i), hx, h1, hd, ?_⟩
  have s3 := s2.setF (i := i) hd
  rw [Z75, set_same h1] at s3
  exact s3
theorem SR.setO (s : SR K B F H σ env) {i : Nat} {v : V} {d : D} {fs : List Str} (h : rN K B F H σ env v d fs) : SR K B F H (σ.set i (some v)) (fput env i (.ow none d fs)) := by
  obtain ⟨p, S, rfl, h2, h3, h4⟩ := h
  refine s.put i _ _ (fun _ e => nomatch e) (fun _ _ _ e => nomatch e) fun ft hf t d' fs' e => ?_
  cases e
  exact ⟨p, S, rfl, h2, h3, h4 ft hf, fun k hk => nomatch hk⟩
theorem SR.chg (s : SR K B F H σ env) {i : Nat} {t : Option Nat} {d : D} {fs : List Str} (he : fget env i = .ow t d fs) : ∃ p S, σ[i]? = some (some (.ref p)) ∧ Own K F H p d fs S ∧ (∀ a ∈ S, F a = none) ∧
    ∀ F' H' d' fs' S', Ex F F' -> (∀ a o, F' a = some o -> F a = some o ∨ H a = none ∨ a ∈ S) -> Ex F' H' -> (∀ a o, a ∉ S -> H a = some o -> H' a = some o) -> Own K F' H' p d' fs' S' -> (∀ a ∈ S', (a ∈ S ∨ H a = none) ∧ F' a = none) -> SR K B F' H' σ (fput env i (.ow t d' fs')) := by
  obtain ⟨ft, hf⟩ := s.own
  obtain ⟨p, h1, h2, h3, h4⟩ := hf.ow i t d fs he
  refine ⟨p, ft i, h1, h2, fun a ha => (h3 a ha).1, fun F' H' d' fs' S' hx hnew hx' hk ho hS' => ?_⟩
  have hl : i < env.length := Z36 he fun z => nomatch z
  refine ⟨hx', s.ex0.trans hx, fun a o h n => ?_, fun a o h => ?_, by rw [Z1a]; exact s.len, fun j e h7 => ?_, fun j a dd gs h7 => ?_, fun j => if j = i then S' else ft j, fun j t' d2 f2 h7 => ?_, fun j k t1 t2 d1 d2 f1 f2 hjk e1 e2 a a1 a2 => ?_⟩
  · refine hk a o (fun z => ?_) (s.keep a o h n)
    rcases (h3 a z).2 with q | q
    · rw [h] at q; cases q
    · exact n q
  · rcases hnew a o h with z | z | z
    · exact s.newF a o z
    · exact Or.inr (s.new_b z)
    · exact Or.inr (h3 a z).2
  · by_cases hij : i = j
    · subst hij
      rw [Z1o hl] at h7; cases h7
    · rw [Zz _ _ hij] at h7
      obtain ⟨v, q1, q2⟩ := s.fz j e h7
      exact ⟨v, q1, q2.mono hx⟩
  · by_cases hij : i = j
    · subst hij
      rw [Z1o hl] at h7; cases h7
    · rw [Zz _ _ hij] at h7
      obtain ⟨g1, fs, g2, g3, g4⟩ := s.xc j a dd gs h7
      exact ⟨g1, fs, hx _ _ g2, g3, g4.mono hx⟩
  · by_cases hij : i = j
    · subst hij
      rw [Z1o hl] at h7
      cases h7
      refine ⟨p, h1, ?_⟩
      simp only [if_pos]
      refine ⟨ho, fun a ha => ⟨(hS' a ha).2, ?_⟩, h4⟩
      rcases (hS' a ha).1 with z | z
      · exact (h3 a z).2
      · exact s.new_b z
    · rw [Zz _ _ hij] at h7
      simp only [if_neg (Ne.symm hij)]
      obtain ⟨q, g1, g2, g3, g4⟩ := hf.ow j t' d2 f2 h7
      have hne : ∀ a ∈ ft j, a ∉ ft i := fun a ha hb => hf.dis i j t t' d d2 fs f2 hij he h7 a hb ha
      refine ⟨q, g1, g2.congr hx fun a ha => ?_, fun a ha => ⟨?_, (g3 a ha).2⟩, g4⟩
      · obtain ⟨o, hoo⟩ := g2.some a ha
        rw [hk a o (hne a ha) hoo, hoo]
      · cases q : F' a with
        | none => rfl
        | some o =>
          rcases hnew a o q with z | z | z
          · rw [(g3 a ha).1] at z; cases z
          · obtain ⟨o2, ho2⟩ := g2.some a ha
            rw [z] at ho2; cases ho2
          · exact absurd z (hne a ha)
  · have key : ∀ {m : Nat} {t3 : Option Nat} {d3 : D} {f3 : List Str}, i ≠ m -> fget (fput env i (.ow t d' fs')) m = .ow t3 d3 f3 -> a ∈ S' -> a ∈ ft m -> False := fun {m t3 d3 f3} him e3 b1 b2 => by
      rw [Zz _ _ him] at e3
      rcases (hS' a b1).1 with z | z
      · exact hf.dis i m t t3 d d3 fs f3 him he e3 a z b2
      · obtain ⟨q, g1, g2, _⟩ := hf.ow m t3 d3 f3 e3
        obtain ⟨o2, ho2⟩ := g2.some a b2
        rw [z] at ho2; cases ho2
    by_cases hj : j = i
    · subst hj
      simp only [if_pos] at a1
      rw [if_neg (Ne.symm hjk)] at a2
      exact key hjk e2 a1 a2
    · simp only [if_neg hj] at a1
      by_cases hk : k = i
      · subst hk
        simp only [if_pos] at a2
        exact key (Ne.symm hjk) e1 a2 a1
      · simp only [if_neg hk] at a2
        rw [Zz _ _ (Ne.symm hj)] at e1
        rw [Zz _ _ (Ne.symm hk)] at e2
        exact hf.dis j k t1 t2 d1 d2 f1 f2 hjk e1 e2 a a1 a2
def Bs.at (B : Bs) (F H : Hp) (env : Fm) (ft : Nat -> List Addr) : Bs := ⟨F, H, owned env ft, B.par⟩
theorem SR.rebase (s : SR K B F H σ env) (hf : Hs K B F H σ env ft) : SR K (B.at F H env ft) F H σ env where
  ex := s.ex
  ex0 := Ex.refl F
  keep := fun _ _ h _ => h
  newF := fun a o h => Or.inl (fun z => by have z' : F a = none := z; rw [h] at z'; cases z')
  len := s.len
  fz := s.fz
  xc := s.xc
  own := ⟨ft, fun i t d fs e => by
    obtain ⟨p, h1, h2, h3, h4⟩ := hf.ow i t d fs e
    exact ⟨p, h1, h2, fun a ha => ⟨(h3 a ha).1, Or.inr ⟨i, t, d, fs, e, ha⟩⟩, h4⟩, hf.dis⟩
theorem SR.unbase (s : SR K B F H σ env) (hf : Hs K B F H σ env ft) {par : Nat -> Option Addr} (hp : ∀ k p, par k = some p -> B.par k = some p) (r : SR K ⟨F, H, owned env ft, par⟩ F' H' σ' env') : SR K B F' H' σ' env' where
  ex := r.ex
  ex0 := s.ex0.trans r.ex0
  keep := fun a o h n => r.keep a o (s.keep a o h n) fun z => by
    rcases (hf.owned_b z).2.2 with q | q
    · rw [h] at q; cases q
    · exact n q
  newF := fun a o h => by
    rcases r.newF a o h with z | z | z
    · cases q : F a with
      | none => exact absurd q z
      | some u => exact s.newF a u q
    · exact Or.inr (s.new_b z)
    · exact Or.inr (hf.owned_b z).2.2
  len := r.len
  fz := r.fz
  xc := r.xc
  own := by
    obtain ⟨ft', h'⟩ := r.own
    refine ⟨ft', fun i t d fs e => ?_, h'.dis⟩
    obtain ⟨p, h1, h2, h3, h4⟩ := h'.ow i t d fs e
    refine ⟨p, h1, h2, fun a ha => ⟨(h3 a ha).1, ?_⟩, fun k hk => hp k p (h4 k hk)⟩
    rcases (h3 a ha).2 with z | z
    · exact s.new_b z
    · exact (hf.owned_b z).2.2
theorem SR.off (s : SR K B F H σ env) {p : Addr} {o : HO} (h0 : B.H0 p = some o) (hF : B.F0 p = none) (hn : ¬ B.ps p) : H p = some o ∧ F p = none ∧ ∀ ft, Hs K B F H σ env ft -> ¬ owned env ft p := by
  refine ⟨s.keep p o h0 hn, ?_, fun ft hf z => ?_⟩
  · cases q : F p with
    | none => rfl
    | some u =>
      rcases s.newF p u q with z | z | z
      · exact absurd hF z
      · rw [h0] at z; cases z
      · exact absurd z hn
  · rcases (hf.owned_b z).2.2 with z | z
    · rw [h0] at z; cases z
    · exact hn z
theorem SR.updOff (s : SR K B F H σ env) {p : Addr} {o : HO} (hF : F p = none) (hb : B.H0 p = none ∨ B.ps p) (hn : ∀ ft, Hs K B F H σ env ft -> ¬ owned env ft p) : SR K B F (upd H p o) σ env where
  ex := fun a u h => by rw [upd_ne (ne_of_none h hF)]; exact s.ex a u h
  ex0 := s.ex0
  keep := fun a u h n => by
    have hne : a ≠ p := fun z => by
      subst z
      rcases hb with z | z
      · rw [h] at z; cases z
      · exact n z
    rw [upd_ne hne]; exact s.keep a u h n
  newF := s.newF
  len := s.len
  fz := s.fz
  xc := s.xc
  own := by
    obtain ⟨ft, hf⟩ := s.own
    refine ⟨ft, hf.congr (Ex.refl F) fun a ha => ⟨upd_ne fun z => ?_, (hf.owned_b ha).1⟩⟩
    subst z
    exact hn ft hf ha
theorem SR.unσ (s : SR K B F H σ env) (hl : σ'.length = σ.length) (hu : ∀ (i : Nat), fget env i ≠ .un -> σ'[i]? = σ[i]?) : SR K B F H σ' env where
  ex := s.ex
  ex0 := s.ex0
  keep := s.keep
  newF := s.newF
  len := hl.trans s.len
  fz := fun i d e => by rw [hu i (by rw [e]; exact fun z => nomatch z)]; exact s.fz i d e
  xc := fun i a d gs e => by rw [hu i (by rw [e]; exact fun z => nomatch z)]; exact s.xc i a d gs e
  own := by
    obtain ⟨ft, hf⟩ := s.own
    exact ⟨ft, fun i t d fs e => by rw [hu i (by rw [e]; exact fun z => nomatch z)]; exact hf.ow i t d fs e, hf.dis⟩
theorem Zp1 {fs : List Str} {ws : List (Str × V)} {gs gs' : List (Str × D)} {S S' : List Addr} (h : OwF K F H fs ws gs S) (h' : OwF K F' H' fs ws gs' S') : S = S' := by
  induction h generalizing gs' S' with
  | nil => cases h'; rfl
  | fz h1 _ _ ih =>
    cases h' with
    | fz _ _ h4 => exact ih h4
    | ow h2 => exact absurd h2 h1
  | ow h1 _ _ _ _ ih =>
    cases h' with
    | fz h2 => exact absurd h1 h2
    | ow _ _ _ _ h5 => rw [ih h5]
theorem Z2w {p : Addr} {d d' : D} {fs : List Str} {S S' : List Addr} (h : Own K F H p d fs S) (hx : Ex H H') (h' : Own K F' H' p d' fs S') : S = S' := by
  cases h with
  | ce h1 h2 => exact h'.plain.1.symm
  | ob h1 h2 h3 =>
    cases h' with
    | ce h4 h5 => rw [h3.plain.1]
    | ob h4 h5 h6 =>
      rw [hx _ _ h1] at h4
      cases h4
      rw [Zp1 h3 h6]
theorem Zb2 {p : Addr} {d d' : D} {fs : List Str} {S S' : List Addr} (h : Own K F H p d fs S) (hx : Ex H H') (h' : Own K F' H' p d' fs S') : ∀ a ∈ S', H a = none -> False := fun a ha hn => by
  rw [← Z2w h hx h'] at ha
  obtain ⟨o, ho⟩ := h.some a ha
  rw [hn] at ho
  cases ho
end
def Dh (K : PySem.W.Frag) (F H : Hp) (v : V) (d : D) : Prop := Dr K F v d ∨ ∃ p o, v = .ref p ∧ H p = some o ∧ Do K F o d
section
variable {K : PySem.W.Frag} {F H F' H' : Hp} {v : V}
theorem Dh.mono {d : D} (e : Ex F F') (e2 : Ex H H') (h : Dh K F H v d) : Dh K F' H' v d := by
  rcases h with h | ⟨p, o, h1, h2, h3⟩
  · exact Or.inl (h.mono e)
  · exact Or.inr ⟨p, o, h1, e2 _ _ h2, h3.mono e⟩
theorem Dh.non (h : Dh K F H v .non) : v = .non := by
  rcases h with h | ⟨p, o, _, _, h⟩ <;> cases h; rfl
theorem Dh.bl {b : Bool} (h : Dh K F H v (.bl b)) : v = .bl b := by
  rcases h with h | ⟨p, o, _, _, h⟩ <;> cases h; rfl
theorem Dh.int {i : Int} (h : Dh K F H v (.int i)) : v = .int i := by
  rcases h with h | ⟨p, o, _, _, h⟩ <;> cases h; rfl
theorem Dh.str {x : Str} (h : Dh K F H v (.str x)) : v = .str x := by
  rcases h with h | ⟨p, o, _, _, h⟩ <;> cases h; rfl
theorem Dh.tyv {x : String} (h : Dh K F H v (.ty x)) : v = .ty x := by
  rcases h with h | ⟨p, o, _, _, h⟩ <;> cases h; rfl
theorem Dh.lstR {ds : List D} (e : Ex F H) (h : Dh K F H v (.lst ds)) : ∃ a xs, v = .ref a ∧ Rd H a (.lst xs) ∧ DrA K F xs ds := by
  rcases h with h | ⟨p, o, rfl, hp, h⟩
  · cases h with
    | lst h1 h2 => exact ⟨_, _, rfl, e.rd h1, h2⟩
  · cases h with
    | lst h2 => exact ⟨_, _, rfl, Or.inl hp, h2⟩
theorem Dh.lst {ds : List D} (e : Ex F H) (h : Dh K F H v (.lst ds)) : ∃ a xs, v = .ref a ∧ SqL K H a xs ∧ DrA K F xs ds := by
  obtain ⟨a, xs, h1, h2, h3⟩ := h.lstR e
  exact ⟨a, xs, h1, Or.inl h2, h3⟩
theorem Dh.tup {ds : List D} (e : Ex F H) (h : Dh K F H v (.tup ds)) : ∃ a xs, v = .ref a ∧ SqT K H a xs ∧ DrA K F xs ds := by
  rcases h with h | ⟨p, o, rfl, hp, h⟩
  · cases h with
    | tup h1 h2 => exact ⟨_, _, rfl, e.st h1.sq, h2⟩
  · cases h
theorem Dh.tupZ {ds : List D} (e : Ex F H) (h : Dh K F H v (.tup ds)) : ∃ a xs, v = .ref a ∧ TqT K H a xs ∧ DrA K F xs ds := by
  rcases h with h | ⟨p, o, rfl, hp, h⟩
  · cases h with
    | tup h1 h2 => exact ⟨_, _, rfl, e.tq h1, h2⟩
  · cases h
theorem Dh.dct {kds : List (Key × D)} (e : Ex F H) (h : Dh K F H v (.dct kds)) : ∃ a kvs, v = .ref a ∧ H a = some (.dK kvs) ∧ kvs.map (·.1) = kds.map (·.1) ∧ DrA K F (kvs.map (·.2)) (kds.map (·.2)) := by
  rcases h with h | ⟨p, o, rfl, hp, h⟩
  · cases h with
    | dct h1 h2 h3 => exact ⟨_, _, rfl, e _ _ h1, h2, h3⟩
  · cases h with
    | dct h2 h3 => exact ⟨_, _, rfl, hp, h2, h3⟩
theorem Dh.obj {C : Str} {gs : List (Str × D)} (e : Ex F H) (h : Dh K F H v (.obj C gs)) : ∃ a c dx fs, v = .ref a ∧ H a = some (.ins c dx fs) ∧ Cl K C c ∧ fs.map (·.1) = gs.map (·.1) ∧ DrA K F (fs.map (·.2)) (gs.map (·.2)) := by
  rcases h with h | ⟨p, o, rfl, hp, h⟩
  · cases h with
    | obj h1 h2 h3 h4 => exact ⟨_, _, _, _, rfl, e _ _ h1, h2, h3, h4⟩
  · cases h with
    | obj h2 h3 h4 => exact ⟨_, _, _, _, rfl, hp, h2, h3, h4⟩
theorem Dh.all {d : D} (e : Ex F H) (h : Dh K F H v d) : Dr K H v d := by
  rcases h with h | ⟨p, o, rfl, hp, h⟩
  · exact h.mono e
  · exact (h.mono e).dr hp
end
end DM
namespace DM
open PySem PySem.Spec PyProof.Rows L2 DL
def zT (xs : List V) (H : Hp) (Q : VK) : Prop := ∀ p o, H p = none -> o.dict = none -> Q (.ref p) (upd H p (.frz o (.tup xs)))
section
variable {X : Cx} {pins : List (Addr × Obj)} {σ : L2.St} {H : Hp} {s : Shared} {Q : VK}
theorem zT.made {xs : List V} {us : List Value} {tk : Nat} (I : Inv X pins σ H s) (r : Vals xs us) (z : xs.length ≤ sizeLine) (q : zT xs H Q) : EP X pins σ Q (.ref s.heap.objs.size) { s with heap := s.heap.push ({ cls := .type "tuple", data := .seq us.toArray } : Obj), toks := tk } := by
  have hg : (s.heap.push ({ cls := .type "tuple", data := .seq us.toArray } : Obj)).get? s.heap.objs.size = some { cls := .type "tuple", data := .seq us.toArray } := Heap.get?_push_size _ rfl
  refine ⟨.ref s.heap.objs.size, upd H s.heap.objs.size (.frz { cls := .type "tuple", data := .seq us.toArray } (.tup xs)), ?_, rfl, q _ _ (I.hok.fresh (Nat.le_refl _)) rfl⟩
  refine I.laid (t' := tk) (fun b u e => Heap.get?_push_of_some _ e) (Nat.le_refl _) ?_
  show _ = _ ∧ _
  exact ⟨hg, z, us, r, _, hg, rfl, _, rfl⟩
end
section
variable {X : Cx}
def Zr8 (t : TA) : TE := fun σ H Q => t σ H fun xs H1 => xs.length ≤ sizeLine ∧ zT xs H1 Q
theorem Zmg {es : List Expr} {t : TA} {pos : Pos} {x1} (h : PA X es t) : PE X (.Tuple es x1 pos) (Zr8 t) :=
  ⟨fun pins s σ H Q I hq => wpAny_Tuple_spliced (thn (h.run pos pins s σ H _ I hq) fun us s1 ⟨xs, H1, I1, r, z, q⟩ => ⟨by rw [← r.length]; exact z, zT.made I1 r z q⟩)⟩
def Zm9 (K : PySem.W.Frag) : R2 := fun x y H Q => ∃ a b xs ys, x = .ref a ∧ y = .ref b ∧ SqT K H a xs ∧ SqT K H b ys ∧ xs.length + ys.length ≤ sizeLine ∧ (xs = [] -> Q (.ref b) H) ∧ (xs ≠ [] -> ys = [] -> Q (.ref a) H) ∧ (xs ≠ [] -> ys ≠ [] -> zT (xs ++ ys) H Q)
theorem op_catZ : OpR X (binaryOp .Add) (Zm9 X.K) := by
  intro pins s σ H x y v u Q I rx ry h
  obtain ⟨a, b, xs, ys, rfl, rfl, ha, hb, hz, q0, q1, q2⟩ := h
  cases rx
  cases ry
  obtain ⟨i1, r1, p1, _⟩ := I.tuple ha
  obtain ⟨i2, r2, p2, _⟩ := I.tuple hb
  by_cases hx : xs = []
  · subst hx
    cases r1
    exact cat_tup0 p1 p2 ⟨.ref b, H, I, rfl, q0 rfl⟩
  · exact HT.cat_tup p1 p2 (fun z => hx (r1.nil_iff.mp z)) (fun z => ⟨.ref a, H, I, rfl, q1 hx (r2.nil_iff.mp z)⟩) (fun z => zT.made I (r1.append r2) (by rw [List.length_append]; exact hz) (q2 hx fun w => z (r2.nil_iff.mpr w))) (by rw [← r1.length, ← r2.length]; exact hz)
def rSlZ (K : PySem.W.Frag) : V -> Option Int -> Option Int -> Hp -> VK -> Prop := fun x lo hi H Q => ∃ a xs, x = .ref a ∧ SqT K H a xs ∧
  (HT.sIx xs.length 0 lo = 0 ∧ HT.sIx xs.length xs.length hi = xs.length -> Q (.ref a) H) ∧ (¬ (HT.sIx xs.length 0 lo = 0 ∧ HT.sIx xs.length xs.length hi = xs.length) -> zT (cutV xs lo hi) H Q)
theorem Zm0 : SlR X (rSlZ X.K) := by
  intro pins s σ H x v vl vu lo hi sl Q I rx hs pl pu h
  obtain ⟨a, xs, rfl, hx, q1, q2⟩ := h
  cases rx
  obtain ⟨its, r, ht, hz⟩ := I.tuple hx
  have hlen : its.toArray.size = xs.length := by rw [List.size_toArray, r.length]
  refine ⟨"tuple", _, PyProof.Rows.slot_tuple_getitem.lookup, ht.typeIs, ?_⟩
  by_cases hw : HT.sIx xs.length 0 lo = 0 ∧ HT.sIx xs.length xs.length hi = xs.length
  · exact getItem_tuple_whole ht hs pl pu (by rw [hlen]; exact hw) ⟨.ref a, H, I, rfl, q1 hw⟩
  · refine HT.getItem_tuple_cut ht hs pl pu (by rw [hlen]; exact hw) ?_ (by rw [hlen]; exact hz)
    rw [hlen]
    exact zT.made I ((r.drop (HT.sIx xs.length 0 lo)).take (HT.sIx xs.length xs.length hi - HT.sIx xs.length 0 lo)) (Nat.le_trans (cutV_length xs lo hi) hz) (q2 hw)
def Zor (K : PySem.W.Frag) : List V -> Hp -> VK -> Prop := fun xs H Q => ∃ p ys, xs = [.ref p] ∧ ((SqL K H p ys ∧ zT ys H Q) ∨ (SqT K H p ys ∧ Q (.ref p) H))
theorem Z3m : CallR X (.type "tuple") (Zor X.K) := by
  intro pins s σ H xs us Q I r h
  obtain ⟨p, ys, rfl, h⟩ := h
  obtain ⟨u, rfl, rx⟩ := vals1 r
  cases rx
  rcases h with ⟨hq, q⟩ | ⟨hq, q⟩
  · obtain ⟨its, r', pl, hz⟩ := I.list hq
    refine call_tuple_list pl.isList (fun h' kp => ?_) (by rw [List.size_toArray, ← r'.length]; exact hz)
    exact zT.made (I.kept (t' := s.toks) kp) r' hz q
  · obtain ⟨its, r', pl, hz⟩ := I.tuple hq
    exact call_tuple_same pl ⟨.ref p, H, I, rfl, q⟩
end
end DM
namespace DM
open PySem PySem.Spec PyProof.Rows L2 DL
section
variable {K : PySem.W.Frag} {B : Bs} {F H : Hp} {σ : L2.St} {env : Fm}
theorem SR.newN (s : SR K B F H σ env) {p : Addr} {o : HO} {d : D} (hp : H p = none) (hd : Do K F o d) : SR K B F (upd H p o) σ env ∧ rN K B F (upd H p o) σ env (.ref p) d [] := by
  refine ⟨s.growH hp, p, [p], rfl, .ce upd_same hd, fun a ha => ?_, fun ft hf a ha z => ?_⟩
  · rw [List.mem_singleton.mp ha]
    exact ⟨s.ex.none hp, s.new_b hp⟩
  · rw [List.mem_singleton.mp ha] at z
    obtain ⟨i, t, d', fs, e1, e2⟩ := z
    obtain ⟨ft0, hf0⟩ := s.own
    obtain ⟨q, h1, h2, _⟩ := hf0.ow i t d' fs e1
    obtain ⟨q', g1, g2, g3, _⟩ := hf.ow i t d' fs e1
    rw [h1] at g1
    cases g1
    exact (Zb2 h2 (fun a o e => Ex.new hp a o e) g2 p e2 hp).elim
theorem SR.newT (s : SR K B F H σ env) {p : Addr} {o : Obj} {xs : List V} {ds : List D} (hp : H p = none) (ho : o.dict = none) (hd : DrA K F xs ds) :
    Ex F (upd F p (.frz o (.tup xs))) ∧ SR K B (upd F p (.frz o (.tup xs))) (upd H p (.frz o (.tup xs))) σ env ∧ Dr K (upd F p (.frz o (.tup xs))) (.ref p) (.tup ds) :=
  ⟨Ex.new (s.ex.none hp), s.grow hp, .tup (Or.inl ⟨o, upd_same, ho⟩) (hd.mono (Ex.new (s.ex.none hp)))⟩
end
def OpD (K : PySem.W.Frag) (r : R2) (g : D -> D -> Option D) : Prop := ∀ B F H σ env x y a b c Q, SR K B F H σ env -> Dh K F H x a -> Dh K F H y b -> g a b = some c ->
  (∀ v F' H', Ex F F' -> Ex H H' -> SR K B F' H' σ env -> Dr K F' v c -> Q v H') -> r x y H Q
def OpN (K : PySem.W.Frag) (r : R2) (g : D -> D -> Option D) : Prop := ∀ B F H σ env x y a b c Q, SR K B F H σ env -> Dh K F H x a -> Dh K F H y b -> g a b = some c ->
  (∀ v F' H', Ex F F' -> Ex H H' -> SR K B F' H' σ env -> rN K B F' H' σ env v c [] -> Q v H') -> r x y H Q
theorem OpN.d {K : PySem.W.Frag} {r : R2} {g : D -> D -> Option D} (h : OpN K r g) : OpD K r g := fun B F H σ env x y a b c Q s hx hy hc q =>
  h B F H σ env x y a b c Q s hx hy hc fun v F' H' e eh s' n => by
    obtain ⟨F2, e2, d2, s2⟩ := s'.frzN n
    exact q v F2 H' (e.trans e2) eh s2 d2
def orG (g g' : D -> D -> Option D) : D -> D -> Option D := fun a b => match g a b with
  | some c => some c
  | none => g' a b
theorem OpD.or {K : PySem.W.Frag} {r r' : R2} {g g' : D -> D -> Option D} (h : OpD K r g) (h' : OpD K r' g') : OpD K (fun x y H Q => r x y H Q ∨ r' x y H Q) (orG g g') := fun B F H σ env x y a b c Q s hx hy hc q => by
  unfold orG at hc
  cases e : g a b with
  | some z =>
    rw [e] at hc
    cases hc
    exact Or.inl (h B F H σ env x y a b _ Q s hx hy e q)
  | none =>
    rw [e] at hc
    exact Or.inr (h' B F H σ env x y a b c Q s hx hy hc q)
def intG (C : Int -> Int -> Bool) (h : Int -> Int -> D) : D -> D -> Option D := fun a b => match a, b with
  | .int i, .int j => if C i j then some (h i j) else none
  | _, _ => none
section
variable {K : PySem.W.Frag}
theorem Zjg {C : Int -> Int -> Prop} {C' : Int -> Int -> Bool} {g : Int -> Int -> V} {h : Int -> Int -> D} (hc : ∀ i j, C' i j = true -> C i j) (hd : ∀ F i j, Dr K F (g i j) (h i j)) : OpD K (rI C g) (intG C' h) := by
  intro B F H σ env x y a b c Q s hx hy hg q
  unfold intG at hg
  split at hg
  · rename_i i j
    split at hg
    · rename_i hij
      cases hg
      exact ⟨i, j, hx.int, hy.int, hc i j hij, q _ F H (Ex.refl F) (Ex.refl H) s (hd F i j)⟩
    · cases hg
  · cases hg
theorem Z9u {g : Int -> Int -> V} {h : Int -> Int -> D} (hd : ∀ F i j, Dr K F (g i j) (h i j)) : OpD K (rI0 g) (intG (fun _ _ => true) h) := by
  intro B F H σ env x y a b c Q s hx hy hg q
  unfold intG at hg
  split at hg
  · rename_i i j
    rw [if_pos rfl] at hg
    cases hg
    exact ⟨i, j, hx.int, hy.int, q _ F H (Ex.refl F) (Ex.refl H) s (hd F i j)⟩
  · cases hg
def cMul (i j : Int) : Bool := decide (-(2 ^ 64) < i ∧ i < 2 ^ 64) || decide (-(2 ^ 64) < j ∧ j < 2 ^ 64)
def cDiv (_ j : Int) : Bool := decide (0 < j ∧ j < 1073741824)
def cMod (_ j : Int) : Bool := decide (0 < j)
def cPow (i j : Int) : Bool := decide (0 ≤ j ∧ j ≤ 1000000 ∧ i.natAbs < 2 ^ 64)
def addG := intG (fun _ _ => true) fun i j => .int (i + j)
def subG := intG (fun _ _ => true) fun i j => .int (i - j)
def mulG := intG cMul fun i j => .int (i * j)
def divG := intG cDiv fun i j => .int (i / j)
def modG := intG cMod fun i j => .int (i % j)
def powG := intG cPow fun i j => .int (i ^ j.toNat)
def ltG := intG (fun _ _ => true) fun i j => .bl (decide (i < j))
def leG := intG (fun _ _ => true) fun i j => .bl (decide (i ≤ j))
def gtG := intG (fun _ _ => true) fun i j => .bl (decide (j < i))
def geG := intG (fun _ _ => true) fun i j => .bl (decide (j ≤ i))
theorem Zp6 : OpD K (rI0 fun i j => .int (i + j)) addG := Z9u fun _ _ _ => .int _
theorem Zl1 : OpD K (rI0 fun i j => .int (i - j)) subG := Z9u fun _ _ _ => .int _
theorem Zc7 : OpD K (rI CMul fun i j => .int (i * j)) mulG := Zjg (fun i j h => by
  unfold cMul at h
  rw [Bool.or_eq_true] at h
  rcases h with h | h
  · exact Or.inl (of_decide_eq_true h)
  · exact Or.inr (of_decide_eq_true h)) fun _ _ _ => .int _
theorem Zl3 : OpD K (rI CDiv fun i j => .int (i / j)) divG := Zjg (fun i j h => (of_decide_eq_true h : 0 < j ∧ j < 1073741824)) fun _ _ _ => .int _
theorem Z7y : OpD K (rI (fun _ j => 0 < j) fun i j => .int (i % j)) modG := Zjg (fun i j h => of_decide_eq_true h) fun _ _ _ => .int _
theorem Zh9 : OpD K (rI CPow fun i j => .int (i ^ j.toNat)) powG := Zjg (fun i j h => (of_decide_eq_true h : 0 ≤ j ∧ j ≤ 1000000 ∧ i.natAbs < 2 ^ 64)) fun _ _ _ => .int _
theorem Zc8 : OpD K (rI0 fun i j => .bl (decide (i < j))) ltG := Z9u fun _ _ _ => .bl _
theorem Zc9 : OpD K (rI0 fun i j => .bl (decide (i ≤ j))) leG := Z9u fun _ _ _ => .bl _
theorem Zdd : OpD K (rI0 fun i j => .bl (decide (j < i))) gtG := Z9u fun _ _ _ => .bl _
theorem Zp5 : OpD K (rI0 fun i j => .bl (decide (j ≤ i))) geG := Z9u fun _ _ _ => .bl _
end
def Znc : D -> D -> Option D := fun a b => match a, b with
  | .str x, .str y => if x.length + y.length ≤ sizeLine then some (.str (x ++ y)) else none
  | _, _ => none
def inSG : D -> D -> Option D := fun a b => match a, b with
  | .str x, .str z => match x.cps.toList with
    | [c] => some (.bl (decide (c ∈ z.cps.toList)))
    | _ => none
  | _, _ => none
def Zdf : D -> D -> Option D := fun a b => match a, b with
  | .str x, .str z => match x.cps.toList with
    | [c] => some (.bl (!decide (c ∈ z.cps.toList)))
    | _ => none
  | _, _ => none
section
variable {K : PySem.W.Frag}
theorem Zml : OpD K (fun x y H Q => ∃ i j, x = .str i ∧ y = .str j ∧ i.length + j.length ≤ sizeLine ∧ Q (.str (i ++ j)) H) Znc := by
  intro B F H σ env x y a b c Q s hx hy hg q
  unfold Znc at hg
  split at hg
  · split at hg
    · rename_i hij
      cases hg
      exact ⟨_, _, hx.str, hy.str, hij, q _ F H (Ex.refl F) (Ex.refl H) s (.str _)⟩
    · cases hg
  · cases hg
theorem Zp4 : OpD K (fun x y H Q => ∃ (c : Nat) (z : Str), x = .str ⟨#[c]⟩ ∧ y = .str z ∧ Q (.bl (decide (c ∈ z.cps.toList))) H) inSG := by
  intro B F H σ env x y a b c Q s hx hy hg q
  unfold inSG at hg
  split at hg
  · split at hg
    · rename_i x' z _ c' he
      cases hg
      have e : x' = ⟨#[c']⟩ := by
        obtain ⟨⟨l⟩⟩ := x'
        have he' : l = [c'] := he
        rw [he']
      exact ⟨c', z, by rw [hx.str, e], hy.str, q _ F H (Ex.refl F) (Ex.refl H) s (.bl _)⟩
    · cases hg
  · cases hg
theorem Zha : OpD K (fun x y H Q => ∃ (c : Nat) (z : Str), x = .str ⟨#[c]⟩ ∧ y = .str z ∧ Q (.bl (!decide (c ∈ z.cps.toList))) H) Zdf := by
  intro B F H σ env x y a b c Q s hx hy hg q
  unfold Zdf at hg
  split at hg
  · split at hg
    · rename_i x' z _ c' he
      cases hg
      have e : x' = ⟨#[c']⟩ := by
        obtain ⟨⟨l⟩⟩ := x'
        have he' : l = [c'] := he
        rw [he']
      exact ⟨c', z, by rw [hx.str, e], hy.str, q _ F H (Ex.refl F) (Ex.refl H) s (.bl _)⟩
    · cases hg
  · cases hg
end
mutual
def pd : D -> PyData
  | .non => .none
  | .bl b => .bool b
  | .int i => .int i
  | .str x => .str x
  | .lst ds => .list (pds ds)
  | .tup ds => .tuple (pds ds)
  | .dct _ => .dict []
  | .obj _ _ => .dict []
  | .ty _ => .dict []
  | .exc _ _ => .dict []
  | .fdc _ => .dict []
def pds : List D -> List PyData
  | [] => []
  | d :: ds => pd d :: pds ds
end
theorem Dr.pd {K : PySem.W.Frag} {F : Hp} {v : V} {d : D} (h : Dr K F v d) : (DM.pd d).canLay0 = true -> Dp K F v (DM.pd d) :=
  Dr.rec (motive_1 := fun v d _ => (DM.pd d).canLay0 = true -> Dp K F v (DM.pd d)) (motive_2 := fun vs ds _ => PyData.canLayAll0 (pds ds) = true -> DpAll K F vs (pds ds))
    (fun _ => by rw [DM.pd]; exact .non) (fun b _ => by rw [DM.pd]; exact .bl b) (fun i _ => by rw [DM.pd]; exact .int i) (fun x _ => by rw [DM.pd]; exact .str x)
    (fun h _ ih c => by rw [DM.pd] at c ⊢; exact .lst (Or.inl h) (ih (by simpa only [PyData.canLay0] using c)))
    (fun h _ ih c => by rw [DM.pd] at c ⊢; exact .tup h.sq (ih (by simpa only [PyData.canLay0] using c)))
    (fun _ _ _ _ c => by rw [DM.pd] at c; simp [PyData.canLay0] at c) (fun _ _ _ _ _ c => by rw [DM.pd] at c; simp [PyData.canLay0] at c) (fun _ c => by rw [DM.pd] at c; simp [PyData.canLay0] at c) (fun _ _ _ _ _ _ c => by rw [DM.pd] at c; simp [PyData.canLay0] at c) (fun _ _ _ _ c => by rw [DM.pd] at c; simp [PyData.canLay0] at c)
    (fun _ => by rw [pds]; exact .nil)
    (fun _ _ ih ih2 c => by
      rw [pds] at c ⊢
      rw [PyData.canLayAll0, Bool.and_eq_true] at c
      exact .cons (ih c.1) (ih2 c.2)) h
def shp (d : D) : Bool := SeqAt.shaped (pd d)
def eqG : D -> D -> Option D := fun a b => match a, b with
  | .int i, .int j => some (.bl (decide (i = j)))
  | .str i, .str j => some (.bl (decide (i = j)))
  | .bl i, .bl j => some (.bl (decide (i = j)))
  | a, b => if shp a && shp b then some (.bl (PyData.eqv (pd a) (pd b))) else none
def neG : D -> D -> Option D := fun a b => match a, b with
  | .int i, .int j => some (.bl (!decide (i = j)))
  | .str i, .str j => some (.bl (!decide (i = j)))
  | .bl i, .bl j => some (.bl (!decide (i = j)))
  | a, b => if shp a && shp b then some (.bl (!PyData.eqv (pd a) (pd b))) else none
section
variable {K : PySem.W.Frag} {X : Cx}
theorem Zf9 (i j : Int) : decide (V.int i = V.int j) = decide (i = j) := by
  by_cases e : i = j
  · subst e; simp
  · rw [decide_eq_false e, decide_eq_false fun h => e (V.int.inj h)]
theorem Zf8 (i j : Str) : decide (V.str i = V.str j) = decide (i = j) := by
  by_cases e : i = j
  · subst e; simp
  · rw [decide_eq_false e, decide_eq_false fun h => e (V.str.inj h)]
theorem Zig (i j : Bool) : decide (V.bl i = V.bl j) = decide (i = j) := by
  by_cases e : i = j
  · subst e; simp
  · rw [decide_eq_false e, decide_eq_false fun h => e (V.bl.inj h)]
abbrev rEqA (K : PySem.W.Frag) : R2 := fun x y H Q => rEq x y H Q ∨ rEqD K x y H Q
abbrev rNeA (K : PySem.W.Frag) : R2 := fun x y H Q => rNe x y H Q ∨ rNeD K x y H Q
theorem Z1r : OpD K (rEqA K) eqG := by
  intro B F H σ env x y a b c Q s hx hy hg q
  unfold eqG at hg
  split at hg
  · cases hg
    rw [hx.int, hy.int]
    exact Or.inl ⟨rfl, by rw [Zf9]; exact q _ F H (Ex.refl F) (Ex.refl H) s (.bl _)⟩
  · cases hg
    rw [hx.str, hy.str]
    exact Or.inl ⟨rfl, by rw [Zf8]; exact q _ F H (Ex.refl F) (Ex.refl H) s (.bl _)⟩
  · cases hg
    rw [hx.bl, hy.bl]
    exact Or.inl ⟨rfl, by rw [Zig]; exact q _ F H (Ex.refl F) (Ex.refl H) s (.bl _)⟩
  · split at hg
    · rename_i hs
      cases hg
      rw [Bool.and_eq_true] at hs
      exact Or.inr ⟨_, _, (hx.all s.ex).pd (SeqAt.canLay_of_shaped hs.1), (hy.all s.ex).pd (SeqAt.canLay_of_shaped hs.2), hs.1, hs.2, q _ F H (Ex.refl F) (Ex.refl H) s (.bl _)⟩
    · cases hg
theorem Z7j : OpD K (rNeA K) neG := by
  intro B F H σ env x y a b c Q s hx hy hg q
  unfold neG at hg
  split at hg
  · cases hg
    rw [hx.int, hy.int]
    exact Or.inl ⟨rfl, by rw [Zf9]; exact q _ F H (Ex.refl F) (Ex.refl H) s (.bl _)⟩
  · cases hg
    rw [hx.str, hy.str]
    exact Or.inl ⟨rfl, by rw [Zf8]; exact q _ F H (Ex.refl F) (Ex.refl H) s (.bl _)⟩
  · cases hg
    rw [hx.bl, hy.bl]
    exact Or.inl ⟨rfl, by rw [Zig]; exact q _ F H (Ex.refl F) (Ex.refl H) s (.bl _)⟩
  · split at hg
    · rename_i hs
      cases hg
      rw [Bool.and_eq_true] at hs
      exact Or.inr ⟨_, _, (hx.all s.ex).pd (SeqAt.canLay_of_shaped hs.1), (hy.all s.ex).pd (SeqAt.canLay_of_shaped hs.2), hs.1, hs.2, q _ F H (Ex.refl F) (Ex.refl H) s (.bl _)⟩
    · cases hg
theorem Zp (hu : X.A.units + 64 < cLine) (hK : X.K = K := by rfl) : OpR X (compareOp .Eq) (rEqA K) := by
  subst hK
  exact op_eq.or (op_eqD hu)
theorem Z50 (hu : X.A.units + 64 < cLine) (hK : X.K = K := by rfl) : OpR X (compareOp .NotEq) (rNeA K) := by
  subst hK
  exact op_ne.or (op_neD hu)
end
def isNon : D -> Option Bool
  | .non => some true
  | .ty _ => none
  | _ => some false
def isNG : D -> D -> Option D := fun a b => match b with
  | .non => (isNon a).map .bl
  | _ => none
def Z4u : D -> D -> Option D := fun a b => match b with
  | .non => (isNon a).map fun k => .bl (!k)
  | _ => none
section
variable {K : PySem.W.Frag}
theorem Dh.isN {F H : Hp} {x : V} {a : D} {k : Bool} (hc : isNon a = some k) (h : Dh K F H x a) : decide (x = .non) = k := by
  rcases h with h | ⟨p, o, rfl, _, h⟩
  · cases h <;> first | (cases hc; rfl) | cases hc
  · cases h <;> (cases hc; rfl)
theorem Zl2 : OpD K (fun x y H Q => y = .non ∧ Q (.bl (decide (x = .non))) H) isNG := by
  intro B F H σ env x y a b c Q s hx hy hg q
  unfold isNG at hg
  split at hg
  · cases e : isNon a with
    | none => rw [e] at hg; cases hg
    | some k =>
      rw [e] at hg
      cases hg
      exact ⟨hy.non, by rw [hx.isN e]; exact q _ F H (Ex.refl F) (Ex.refl H) s (.bl _)⟩
  · cases hg
theorem Z5f : OpD K (fun x y H Q => y = .non ∧ Q (.bl (!decide (x = .non))) H) Z4u := by
  intro B F H σ env x y a b c Q s hx hy hg q
  unfold Z4u at hg
  split at hg
  · cases e : isNon a with
    | none => rw [e] at hg; cases hg
    | some k =>
      rw [e] at hg
      cases hg
      exact ⟨hy.non, by rw [hx.isN e]; exact q _ F H (Ex.refl F) (Ex.refl H) s (.bl _)⟩
  · cases hg
end
def DhA (K : PySem.W.Frag) (F H : Hp) : List V -> List D -> Prop
  | [], [] => True
  | v :: vs, d :: ds => Dh K F H v d ∧ DhA K F H vs ds
  | _, _ => False
def Z8c (K : PySem.W.Frag) (r : List V -> Hp -> VK -> Prop) (g : List D -> Option D) : Prop := ∀ B F H σ env xs as c Q, SR K B F H σ env -> DhA K F H xs as -> g as = some c ->
  (∀ v F' H', Ex F F' -> Ex H H' -> SR K B F' H' σ env -> Dr K F' v c -> Q v H') -> r xs H Q
def Z9h (K : PySem.W.Frag) (r : List V -> Hp -> VK -> Prop) (g : List D -> Option D) : Prop := ∀ B F H σ env xs as c Q, SR K B F H σ env -> DhA K F H xs as -> g as = some c ->
  (∀ v F' H', Ex F F' -> Ex H H' -> SR K B F' H' σ env -> rN K B F' H' σ env v c [] -> Q v H') -> r xs H Q
def lenG : List D -> Option D
  | [.str x] => if x.length ≤ sizeLine then some (.int x.length) else none
  | [.lst ds] => some (.int ds.length)
  | [.tup ds] => some (.int ds.length)
  | _ => none
def tyn : D -> Option String
  | .non => some "NoneType"
  | .bl _ => some "bool"
  | .int _ => some "int"
  | .str _ => some "str"
  | .lst _ => some "list"
  | .tup _ => some "tuple"
  | .dct _ => some "dict"
  | .fdc _ => some "dict"
  | _ => none
def tyIs (a T : String) : Bool := a == T || (a == "bool" && T == "int")
def tys : List String := ["NoneType", "bool", "int", "str", "list", "tuple", "dict"]
def isiG : List D -> Option D
  | [d, .ty T] => if tys.contains T then (tyn d).map fun a => .bl (tyIs a T) else none
  | _ => none
def boolsOf : List D -> Option (List Bool)
  | [] => some []
  | .bl b :: ds => (boolsOf ds).map (b :: ·)
  | _ :: _ => none
def anyG : List D -> Option D
  | [.lst ds] => (boolsOf ds).map fun bs => .bl (bs.any id)
  | _ => none
def Z9m : List D -> Option D
  | [.int i, .int j] => some (.int (if j > i then j else i))
  | _ => none
def Zdg : List D -> Option D
  | [.int i, .int j] => some (.int (if j < i then j else i))
  | _ => none
def Z4y : List D -> Option D
  | [.int i] => some (.int i)
  | [.bl k] => some (.int (if k then 1 else 0))
  | _ => none
section
variable {K : PySem.W.Frag} {F H : Hp}
theorem DhA.one {xs : List V} {d : D} (h : DhA K F H xs [d]) : ∃ v, xs = [v] ∧ Dh K F H v d := by
  match xs, h with
  | [v], h => exact ⟨v, rfl, h.1⟩
  | [], h => exact h.elim
  | _ :: _ :: _, h => exact h.2.elim
theorem DhA.two {xs : List V} {d e : D} (h : DhA K F H xs [d, e]) : ∃ v w, xs = [v, w] ∧ Dh K F H v d ∧ Dh K F H w e := by
  match xs, h with
  | [v, w], h => exact ⟨v, w, rfl, h.1, h.2.1⟩
  | [], h => exact h.elim
  | [_], h => exact h.2.elim
  | _ :: _ :: _ :: _, h => exact h.2.2.elim
theorem Z3b : Z8c K (fun xs H Q => ∃ x n, xs = [x] ∧ LenV K x H n ∧ Q (.int n) H) lenG := by
  intro B F H σ env xs as c Q s hx hg q
  unfold lenG at hg
  split at hg
  · split at hg
    · rename_i hz
      cases hg
      obtain ⟨v, rfl, hv⟩ := hx.one
      refine ⟨v, _, rfl, ?_, q _ F H (Ex.refl F) (Ex.refl H) s (.int _)⟩
      rw [hv.str]
      exact ⟨hz, rfl⟩
    · cases hg
  · cases hg
    obtain ⟨v, rfl, hv⟩ := hx.one
    obtain ⟨a, ys, rfl, h1, h2⟩ := hv.lst s.ex
    exact ⟨_, _, rfl, Or.inl ⟨ys, h1, h2.length.symm⟩, q _ F H (Ex.refl F) (Ex.refl H) s (.int _)⟩
  · cases hg
    obtain ⟨v, rfl, hv⟩ := hx.one
    obtain ⟨a, ys, rfl, h1, h2⟩ := hv.tup s.ex
    exact ⟨_, _, rfl, Or.inr ⟨ys, h1, h2.length.symm⟩, q _ F H (Ex.refl F) (Ex.refl H) s (.int _)⟩
  · cases hg
theorem Zoe {a : Addr} {xs : List V} (h : SqL K H a xs) : TyX K H (.ref a) (.type "list") := by
  rcases h with (h | ⟨o, h⟩) | ⟨o, its, n, h1, h2, _⟩
  · exact .base (.lst h)
  · exact .base (.frz h)
  · exact .kList h1 h2
theorem Zod {a : Addr} {xs : List V} (h : SqT K H a xs) : TyX K H (.ref a) (.type "tuple") := by
  rcases h with (h | ⟨o, h⟩) | ⟨o, its, n, h1, h2, _⟩
  · exact .base (.tup h)
  · exact .fTuple h
  · exact .kTuple h1 h2
theorem Dh.ty {x : V} {d : D} {a : String} (e : Ex F H) (h : Dh K F H x d) (ht : tyn d = some a) : TyX K H x (.type a) := by
  cases d with
  | non => cases ht; rw [h.non]; exact .base .non
  | bl b => cases ht; rw [h.bl]; exact .base (.bl b)
  | int i => cases ht; rw [h.int]; exact .base (.int i)
  | str y => cases ht; rw [h.str]; exact .base (.str y)
  | lst ds => cases ht; obtain ⟨p, ys, rfl, h1, _⟩ := h.lst e; exact Zoe h1
  | tup ds => cases ht; obtain ⟨p, ys, rfl, h1, _⟩ := h.tup e; exact Zod h1
  | dct kvs => cases ht; obtain ⟨p, ys, rfl, h1, _⟩ := h.dct e; exact .base (.dK h1)
  | obj C fs => cases ht
  | ty c => cases ht
  | exc C fs => cases ht
  | fdc kvs =>
    cases ht
    rcases h with h | ⟨_, _, _, _, h⟩
    · cases h with
      | fdc h1 _ _ => exact .fDict (e _ _ h1)
    · cases h
theorem Zmx : ∀ a ∈ tys, ∀ T ∈ tys, kitB a T = some (tyIs a T) := by decide +kernel
theorem Zlq {d : D} {a : String} (h : tyn d = some a) : a ∈ tys := by
  cases d <;> cases h <;> decide
theorem Zfc : Z8c K (rIsi K) isiG := by
  intro B F H σ env xs as c Q s hx hg q
  unfold isiG at hg
  split at hg
  · rename_i d T
    split at hg
    · rename_i hT
      cases ht : tyn d with
      | none => rw [ht] at hg; cases hg
      | some a =>
        rw [ht] at hg
        cases hg
        obtain ⟨v, w, rfl, hv, hw⟩ := hx.two
        rw [hw.tyv]
        exact ⟨v, .ty T, .type a, .type T, _, rfl, .ty T, hv.ty s.ex ht, kit_ty (Zmx a (Zlq ht) T (List.contains_iff_mem.mp hT)), q _ F H (Ex.refl F) (Ex.refl H) s (.bl _)⟩
    · cases hg
  · cases hg
theorem Za0 : ∀ {xs : List V} {ds : List D} {bs : List Bool}, DrA K F xs ds -> boolsOf ds = some bs -> xs = bs.map V.bl
  | _, _, bs, .nil, h => by cases h; rfl
  | _, _, bs, .cons (d := d) (ds := ds) h t, hb => by
    unfold boolsOf at hb
    split at hb
    · rename_i he; cases he
    · rename_i b ds' he
      cases he
      cases h
      cases e : boolsOf ds with
      | none => rw [e] at hb; cases hb
      | some bs' =>
        rw [e] at hb
        cases hb
        rw [Za0 t e]
        rfl
    · cases hb
theorem Zij : Z8c K (rAny K) anyG := by
  intro B F H σ env xs as c Q s hx hg q
  unfold anyG at hg
  split at hg
  · rename_i ds
    cases e : boolsOf ds with
    | none => rw [e] at hg; cases hg
    | some bs =>
      rw [e] at hg
      cases hg
      obtain ⟨v, rfl, hv⟩ := hx.one
      obtain ⟨a, ys, rfl, h1, h2⟩ := hv.lst s.ex
      rw [Za0 h2 e] at h1
      exact ⟨a, bs, rfl, h1, q _ F H (Ex.refl F) (Ex.refl H) s (.bl _)⟩
  · cases hg
theorem Z7s : Z8c K (fun xs H Q => ∃ i j, xs = [.int i, .int j] ∧ Q (.int (if j > i then j else i)) H) Z9m := by
  intro B F H σ env xs as c Q s hx hg q
  unfold Z9m at hg
  split at hg
  · cases hg
    obtain ⟨v, w, rfl, hv, hw⟩ := hx.two
    rw [hv.int, hw.int]
    exact ⟨_, _, rfl, q _ F H (Ex.refl F) (Ex.refl H) s (.int _)⟩
  · cases hg
theorem Zb6 : Z8c K (fun xs H Q => ∃ i j, xs = [.int i, .int j] ∧ Q (.int (if j < i then j else i)) H) Zdg := by
  intro B F H σ env xs as c Q s hx hg q
  unfold Zdg at hg
  split at hg
  · cases hg
    obtain ⟨v, w, rfl, hv, hw⟩ := hx.two
    rw [hv.int, hw.int]
    exact ⟨_, _, rfl, q _ F H (Ex.refl F) (Ex.refl H) s (.int _)⟩
  · cases hg
theorem Z6g : Z8c K (fun xs H Q => (∃ i, xs = [.int i] ∧ Q (.int i) H) ∨ ∃ k, xs = [.bl k] ∧ Q (.int (if k then 1 else 0)) H) Z4y := by
  intro B F H σ env xs as c Q s hx hg q
  unfold Z4y at hg
  split at hg
  · cases hg
    obtain ⟨v, rfl, hv⟩ := hx.one
    rw [hv.int]
    exact Or.inl ⟨_, rfl, q _ F H (Ex.refl F) (Ex.refl H) s (.int _)⟩
  · cases hg
    obtain ⟨v, rfl, hv⟩ := hx.one
    rw [hv.bl]
    exact Or.inr ⟨_, rfl, q _ F H (Ex.refl F) (Ex.refl H) s (.int _)⟩
  · cases hg
end
def Z8y : List D -> Option D
  | [.lst ds] => some (.lst ds)
  | [.tup ds] => some (.lst ds)
  | _ => none
def Z6t : List D -> Option D
  | [.lst ds] => some (.tup ds)
  | [.tup ds] => some (.tup ds)
  | _ => none
section
variable {K : PySem.W.Frag} {F H : Hp}
theorem Z9b : Z9h K (fun xs H Q => ∃ p ys, xs = [.ref p] ∧ (SqL K H p ys ∨ SqT K H p ys) ∧ ∀ l, H l = none -> Q (.ref l) (upd H l (.lst ys))) Z8y := by
  intro B F H σ env xs as c Q s hx hg q
  unfold Z8y at hg
  split at hg
  · cases hg
    obtain ⟨v, rfl, hv⟩ := hx.one
    obtain ⟨a, ys, rfl, h1, h2⟩ := hv.lst s.ex
    exact ⟨a, ys, rfl, Or.inl h1, fun l hl => q _ F _ (Ex.refl F) (Ex.new hl) (s.newN hl (Do.lst h2)).1 (s.newN hl (Do.lst h2)).2⟩
  · cases hg
    obtain ⟨v, rfl, hv⟩ := hx.one
    obtain ⟨a, ys, rfl, h1, h2⟩ := hv.tup s.ex
    exact ⟨a, ys, rfl, Or.inr h1, fun l hl => q _ F _ (Ex.refl F) (Ex.new hl) (s.newN hl (Do.lst h2)).1 (s.newN hl (Do.lst h2)).2⟩
  · cases hg
theorem Z68 : Z8c K (Zor K) Z6t := by
  intro B F H σ env xs as c Q s hx hg q
  unfold Z6t at hg
  split at hg
  · cases hg
    obtain ⟨v, rfl, hv⟩ := hx.one
    obtain ⟨a, ys, rfl, h1, h2⟩ := hv.lst s.ex
    refine ⟨a, ys, rfl, Or.inl ⟨h1, fun l o hl ho => ?_⟩⟩
    obtain ⟨e1, s1, d1⟩ := s.newT hl ho h2
    exact q _ _ _ e1 (Ex.new hl) s1 d1
  · cases hg
    obtain ⟨v, rfl, hv⟩ := hx.one
    rcases hv with hv | ⟨_, _, _, _, hv⟩
    · cases hv with
      | tup h1 h2 => exact ⟨_, _, rfl, Or.inr ⟨s.ex.st h1.sq, q _ F H (Ex.refl F) (Ex.refl H) s (.tup h1 h2)⟩⟩
    · cases hv
  · cases hg
end
def few (n : Nat) : Bool := decide (n ≤ sizeLine)
def ixG : D -> D -> Option D := fun a b => match a, b with
  | .lst ds, .int i => atI ds i
  | .tup ds, .int i => atI ds i
  | .str z, .int i => if z.length ≤ sizeLine then (atI z.cps.toList i).map fun c => .str ⟨#[c]⟩ else none
  | _, _ => none
section
variable {K : PySem.W.Frag} {F H : Hp}
theorem DrA.at {xs : List V} {ds : List D} {i : Int} {d : D} (h : DrA K F xs ds) (e : atI ds i = some d) : ∃ v, atI xs i = some v ∧ Dr K F v d := by
  unfold atI at e ⊢
  rw [h.length]
  cases q : ixN ds.length i with
  | none => rw [q] at e; cases e
  | some j =>
    rw [q] at e
    exact h.get e
theorem Zp3 : OpD K (rIx K) ixG := by
  intro B F H σ env x y a b c Q s hx hy hg q
  unfold ixG at hg
  split at hg
  · obtain ⟨p, xs, rfl, h1, h2⟩ := hx.lst s.ex
    obtain ⟨v, e, hv⟩ := h2.at hg
    exact Or.inl ⟨p, xs, _, v, rfl, hy.int, h1, e, q _ F H (Ex.refl F) (Ex.refl H) s hv⟩
  · obtain ⟨p, xs, rfl, h1, h2⟩ := hx.tup s.ex
    obtain ⟨v, e, hv⟩ := h2.at hg
    exact Or.inr (Or.inl ⟨p, xs, _, v, rfl, hy.int, h1, e, q _ F H (Ex.refl F) (Ex.refl H) s hv⟩)
  · rename_i z i
    split at hg
    · rename_i hz
      cases e : atI z.cps.toList i with
      | none => rw [e] at hg; cases hg
      | some k =>
        rw [e] at hg
        cases hg
        exact Or.inr (Or.inr ⟨z, i, k, hx.str, hy.int, hz, e, q _ F H (Ex.refl F) (Ex.refl H) s (.str _)⟩)
    · cases hg
  · cases hg
end
def cutD {α : Type} (xs : List α) (lo hi : Option Int) : List α := (xs.drop (HT.sIx xs.length 0 lo)).take (HT.sIx xs.length xs.length hi - HT.sIx xs.length 0 lo)
def slG (a : D) (lo hi : Option Int) : Option D := match a with
  | .lst ds => some (.lst (cutD ds lo hi))
  | .tup ds => some (.tup (cutD ds lo hi))
  | .str z => if z.length ≤ sizeLine then some (.str (Txt.slice z lo hi)) else none
  | _ => none
abbrev Zos (K : PySem.W.Frag) : V -> Option Int -> Option Int -> Hp -> VK -> Prop := fun x lo hi H Q => (rSlL K x lo hi H Q ∨ rSlZ K x lo hi H Q) ∨ C8.rSlX x lo hi H Q
theorem DrA.cut {K : PySem.W.Frag} {F : Hp} {xs : List V} {ds : List D} (h : DrA K F xs ds) (lo hi : Option Int) : DrA K F (cutV xs lo hi) (cutD ds lo hi) := by
  unfold cutV cutD
  rw [h.length]
  exact (h.drop _).take _
theorem Zg1 {xs : List V} {lo hi : Option Int} (h : HT.sIx xs.length 0 lo = 0 ∧ HT.sIx xs.length xs.length hi = xs.length) : cutV xs lo hi = xs := by
  unfold cutV
  rw [h.1, h.2, List.drop_zero, Nat.sub_zero, List.take_length]
def Zma : R2 := fun x y H Q => ∃ l b xs zs, x = .ref l ∧ y = .ref b ∧ Rd H l (.lst xs) ∧ Rd H b (.lst zs) ∧ xs.length + zs.length ≤ sizeLine ∧ ∀ p, H p = none -> Q (.ref p) (upd H p (.lst (xs ++ zs)))
theorem Zkx {X : Cx} {pins : List (Addr × Obj)} {σ : L2.St} {H : Hp} {s : Shared} {l : Addr} {xs : List V} (I : Inv X pins σ H s) (h : Rd H l (.lst xs)) :
    xs.length ≤ sizeLine ∧ ∃ (its : List Value) (n : Nat), Vals xs its ∧ xs.length = its.length ∧ s.heap.get? l = some { cls := .type "list", data := .seq its.toArray n } := by
  obtain ⟨z, its, n, r, e⟩ := h.ok I.hok
  exact ⟨z, its, n, r, r.length, e⟩
theorem Zmj {X : Cx} : OpR X (binaryOp .Add) Zma := by
  intro pins s σ H x y v u Q I rx ry h
  obtain ⟨l, b, xs, zs, rfl, rfl, hH, hB, hz, q⟩ := h
  cases rx
  cases ry
  obtain ⟨z, its, n, r, hl, e⟩ := Zkx I hH
  obtain ⟨z2, its2, n2, r2, hl2, e2⟩ := Zkx I hB
  refine PySem.P.add_list e e2 ?_ (by rw [List.size_toArray, List.size_toArray]; omega)
  have ea : its.toArray ++ its2.toArray = (its ++ its2).toArray := by simp
  rw [ea]
  exact ⟨.ref _, _, I.lnew (t' := s.toks) (r.append r2) (by rw [List.length_append]; omega), rfl, q _ I.fresh⟩
def Zg5 : D -> D -> Option D := fun a b => match a, b with
  | .lst xs, .lst ys => if xs.length + ys.length ≤ sizeLine then some (.lst (xs ++ ys)) else none
  | _, _ => none
theorem on_catL {K : PySem.W.Frag} : OpN K Zma Zg5 := by
  intro B F H σ env x y a b c Q s hx hy hg q
  unfold Zg5 at hg
  split at hg
  · split at hg
    · rename_i hz
      cases hg
      obtain ⟨l, xs, rfl, h1, h2⟩ := hx.lstR s.ex
      obtain ⟨m, ys, rfl, h3, h4⟩ := hy.lstR s.ex
      refine ⟨l, m, xs, ys, rfl, rfl, h1, h3, by rw [h2.length, h4.length]; exact hz, fun p hp => ?_⟩
      obtain ⟨s2, n2⟩ := s.newN hp (Do.lst (h2.append h4))
      exact q _ F _ (Ex.refl F) (Ex.new hp) s2 n2
    · cases hg
  · cases hg
theorem DrA.rep {K : PySem.W.Frag} {F : Hp} {xs : List V} {ds : List D} (h : DrA K F xs ds) : ∀ k : Nat, DrA K F (List.replicate k xs).flatten (List.replicate k ds).flatten
  | 0 => .nil
  | k + 1 => by
    rw [List.replicate_succ, List.replicate_succ, List.flatten_cons, List.flatten_cons]
    exact h.append (DrA.rep h k)
theorem u65 {k : Nat} {A : Around} (r : Room k A) : A.units + 65 < cLine := by have := r.un; omega
def Zdz : D -> D -> Option D := fun a b => match a, b with
  | .tup xs, .tup ys => if xs.length + ys.length ≤ sizeLine then some (.tup (xs ++ ys)) else none
  | _, _ => none
theorem Zmk {K : PySem.W.Frag} : OpD K (Zm9 K) Zdz := by
  intro B F H σ env x y a b c Q s hx hy hg q
  unfold Zdz at hg
  split at hg
  · split at hg
    · rename_i hz
      cases hg
      rcases hx with hx | ⟨_, _, _, _, hx⟩
      · cases hx with
        | tup h1 h2 =>
          rcases hy with hy | ⟨_, _, _, _, hy⟩
          · cases hy with
            | tup h3 h4 =>
              refine ⟨_, _, _, _, rfl, rfl, s.ex.st h1.sq, s.ex.st h3.sq, by rw [h2.length, h4.length]; exact hz, fun e => ?_, fun _ e => ?_, fun _ _ p o hp ho => ?_⟩
              · subst e
                cases h2
                exact q _ F H (Ex.refl F) (Ex.refl H) s (.tup h3 h4)
              · subst e
                cases h4
                exact q _ F H (Ex.refl F) (Ex.refl H) s (.tup h1 (by rw [List.append_nil]; exact h2))
              · obtain ⟨e1, s1, d1⟩ := s.newT hp ho (h2.append h4)
                exact q _ _ _ e1 (Ex.new hp) s1 d1
          · cases hy
      · cases hx
    · cases hg
  · cases hg
def addA : D -> D -> Option D := orG addG (orG Znc (orG Zdz Zg5))
abbrev Zox (K : PySem.W.Frag) : R2 := fun x y H Q => (rI0 fun i j => .int (i + j)) x y H Q ∨ ((∃ i j, x = .str i ∧ y = .str j ∧ i.length + j.length ≤ sizeLine ∧ Q (.str (i ++ j)) H) ∨ (Zm9 K x y H Q ∨ Zma x y H Q))
theorem Zd {X : Cx} {K : PySem.W.Frag} (hK : X.K = K := by rfl) : OpR X (binaryOp .Add) (Zox K) := by
  subst hK
  exact op_add.or (op_add_str.or (op_catZ.or Zmj))
theorem Ze {K : PySem.W.Frag} : OpD K (Zox K) addA := OpD.or Zp6 (OpD.or Zml (OpD.or Zmk on_catL.d))
def flat : D -> Bool
  | .non => true
  | .bl _ => true
  | .int _ => true
  | .str _ => true
  | _ => false
def eqF : D -> D -> Bool
  | .non, .non => true
  | .bl a, .bl b => a == b
  | .bl a, .int b => (if a then 1 else 0) == b
  | .int a, .bl b => a == (if b then 1 else 0)
  | .int a, .int b => a == b
  | .str a, .str b => a == b
  | _, _ => false
def inF (d : D) (ds : List D) : Option Bool := if flat d && ds.all flat then some (ds.any fun y => eqF y d) else none
def inP (d : D) (ds : List D) : Option Bool := if shp d && shp (.lst ds) then some ((pds ds).any fun z => PyData.eqv z (pd d)) else none
def inL (d : D) (ds : List D) : Option Bool := match inF d ds with
  | some b => some b
  | none => inP d ds
def Zhw : D -> D -> Option D := fun a b => match b with
  | .lst ds => (inL a ds).map .bl
  | .tup ds => (inL a ds).map .bl
  | _ => none
def Z8v : D -> D -> Option D := fun a b => match b with
  | .lst ds => (inL a ds).map fun k => .bl (!k)
  | .tup ds => (inL a ds).map fun k => .bl (!k)
  | _ => none
section
variable {K : PySem.W.Frag} {F H : Hp}
theorem Dr.flat {v : V} {d : D} (h : Dr K F v d) (hf : DM.flat d = true) : flatV v = true ∧ ∀ {w : V} {e : D}, Dr K F w e -> DM.flat e = true -> eqV w v = eqF e d := by
  cases h with
  | non => exact ⟨rfl, fun {w e} h2 f2 => by cases h2 <;> first | rfl | cases f2⟩
  | bl b => exact ⟨rfl, fun {w e} h2 f2 => by cases h2 <;> first | rfl | cases f2⟩
  | int b => exact ⟨rfl, fun {w e} h2 f2 => by cases h2 <;> first | rfl | cases f2⟩
  | str b => exact ⟨rfl, fun {w e} h2 f2 => by cases h2 <;> first | rfl | cases f2⟩
  | lst _ _ => cases hf
  | tup _ _ => cases hf
  | dct _ _ _ => cases hf
  | obj _ _ _ _ => cases hf
  | ty _ => cases hf
  | exc _ _ _ _ _ => cases hf
  | fdc _ _ _ => cases hf
theorem DrA.flat : ∀ {vs : List V} {ds : List D}, DrA K F vs ds -> ds.all DM.flat = true -> vs.all flatV = true ∧ ∀ {v : V} {d : D}, Dr K F v d -> DM.flat d = true -> inV v vs = ds.any fun y => eqF y d
  | _, _, .nil, _ => ⟨rfl, fun _ _ => rfl⟩
  | _, _, .cons h t, ha => by
    rw [List.all_cons, Bool.and_eq_true] at ha
    obtain ⟨h1, h2⟩ := DrA.flat t ha.2
    refine ⟨by rw [List.all_cons, (h.flat ha.1).1, h1]; rfl, fun {v d} hv hf => ?_⟩
    unfold inV
    rw [List.any_cons, List.any_cons, (hv.flat hf).2 h ha.1]
    have := h2 hv hf
    unfold inV at this
    rw [this]
theorem Dh.dr_flat {v : V} {d : D} (h : Dh K F H v d) (hf : DM.flat d = true) : Dr K F v d := by
  rcases h with h | ⟨p, o, _, _, h⟩
  · exact h
  · cases h <;> cases hf
end
def Zeh (K : PySem.W.Frag) : R2 := fun x y H Q => ∃ (p : Addr) (d : PyData) (ds : List PyData), y = .ref p ∧ Dp K H x d ∧ (Dp K H y (.list ds) ∨ Dp K H y (.tuple ds)) ∧ SeqAt.shaped d = true ∧ PyData.canLayAll0 ds = true ∧ Q (.bl (ds.any fun z => PyData.eqv z d)) H
def Z6v (K : PySem.W.Frag) : R2 := fun x y H Q => ∃ (p : Addr) (d : PyData) (ds : List PyData), y = .ref p ∧ Dp K H x d ∧ (Dp K H y (.list ds) ∨ Dp K H y (.tuple ds)) ∧ SeqAt.shaped d = true ∧ PyData.canLayAll0 ds = true ∧ Q (.bl (!ds.any fun z => PyData.eqv z d)) H
theorem Zjh {X : Cx} (hu : X.A.units + 65 < cLine) : OpR X (compareOp .In) (Zeh X.K) := by
  intro pins s σ H x y v u Q I rx ry h
  obtain ⟨p, d, ds, rfl, hd, he, sd, se, q⟩ := h
  obtain ⟨as, r1⟩ := Dp.reads I d x v hd rx
  rcases he with he | he
  · obtain ⟨bs, r2⟩ := Dp.reads I (.list ds) _ u he ry
    exact SeqAt.in_list_reads r2 r1 se (SeqAt.canLay_of_shaped sd) (room_in_shaped sd hu) ⟨.bl _, H, I, rfl, q⟩
  · obtain ⟨bs, r2⟩ := Dp.reads I (.tuple ds) _ u he ry
    exact SeqAt.in_tuple_reads r2 r1 se (SeqAt.canLay_of_shaped sd) (room_in_shaped sd hu) ⟨.bl _, H, I, rfl, q⟩
theorem Zd9 {X : Cx} (hu : X.A.units + 65 < cLine) : OpR X (compareOp .NotIn) (Z6v X.K) := by
  intro pins s σ H x y v u Q I rx ry h
  obtain ⟨p, d, ds, rfl, hd, he, sd, se, q⟩ := h
  obtain ⟨as, r1⟩ := Dp.reads I d x v hd rx
  rcases he with he | he
  · obtain ⟨bs, r2⟩ := Dp.reads I (.list ds) _ u he ry
    exact SeqAt.notIn_list_reads r2 r1 se (SeqAt.canLay_of_shaped sd) (room_in_shaped sd hu) ⟨.bl _, H, I, rfl, q⟩
  · obtain ⟨bs, r2⟩ := Dp.reads I (.tuple ds) _ u he ry
    exact SeqAt.notIn_tuple_reads r2 r1 se (SeqAt.canLay_of_shaped sd) (room_in_shaped sd hu) ⟨.bl _, H, I, rfl, q⟩
section
variable {K : PySem.W.Frag}
theorem Zhv {B : Bs} {F H : Hp} {σ : L2.St} {env : Fm} {x : V} {a : D} {ds : List D} {p : Addr} {ys : List V} {k : Bool} {Q : Bool -> Prop} (s : SR K B F H σ env) (hx : Dh K F H x a) (hs : SqL K H p ys ∨ SqT K H p ys) (hA : DrA K F ys ds) (hk : inL a ds = some k) :
    (flatV x = true ∧ ys.all flatV = true ∧ inV x ys = k) ∨ (∃ (d : PyData) (es : List PyData), Dp K H x d ∧ (Dp K H (.ref p) (.list es) ∨ Dp K H (.ref p) (.tuple es)) ∧ SeqAt.shaped d = true ∧ PyData.canLayAll0 es = true ∧ (es.any fun z => PyData.eqv z d) = k) := by
  unfold inL at hk
  split at hk
  · rename_i b hb
    cases hk
    unfold inF at hb
    split at hb
    · rename_i hf
      cases hb
      rw [Bool.and_eq_true] at hf
      have hd := hx.dr_flat hf.1
      obtain ⟨h1, h2⟩ := hA.flat hf.2
      exact Or.inl ⟨(hd.flat hf.1).1, h1, h2 hd hf.1⟩
    · cases hb
  · unfold inP at hk
    split at hk
    · rename_i hf
      cases hk
      rw [Bool.and_eq_true] at hf
      have hl : PyData.canLayAll0 (pds ds) = true := by
        have := SeqAt.canLay_of_shaped hf.2
        rw [pd] at this
        simpa only [PyData.canLay0] using this
      have hB : Dp K H (.ref p) (.list (pds ds)) ∨ Dp K H (.ref p) (.tuple (pds ds)) := by
        have hA2 : DpAll K H ys (pds ds) := by
          have hr : Rd (upd H p (.lst ys)) p (.lst ys) := Or.inl upd_same
          clear hf hx hs
          have go : ∀ {ys : List V} {ds : List D}, DrA K F ys ds -> PyData.canLayAll0 (pds ds) = true -> DpAll K H ys (pds ds) := by
            intro ys ds h
            induction h using DrA.rec (motive_1 := fun _ _ _ => True) with
            | nil => intro _; rw [pds]; exact .nil
            | cons h1 h2 _ ih =>
              intro hc
              rw [pds] at hc ⊢
              rw [PyData.canLayAll0, Bool.and_eq_true] at hc
              exact .cons ((h1.mono s.ex).pd hc.1) (ih hc.2)
            | _ => trivial
          exact go hA hl
        rcases hs with hs | hs
        · exact Or.inl (.lst hs hA2)
        · exact Or.inr (.tup hs hA2)
      exact Or.inr ⟨pd a, pds ds, (hx.all s.ex).pd (SeqAt.canLay_of_shaped hf.1), hB, hf.1, hl, rfl⟩
    · cases hk
abbrev rInA (K : PySem.W.Frag) : R2 := fun x y H Q => (∃ (c : Nat) (z : Str), x = .str ⟨#[c]⟩ ∧ y = .str z ∧ Q (.bl (decide (c ∈ z.cps.toList))) H) ∨ (rIn K false x y H Q ∨ Zeh K x y H Q)
abbrev Zh1 (K : PySem.W.Frag) : R2 := fun x y H Q => (∃ (c : Nat) (z : Str), x = .str ⟨#[c]⟩ ∧ y = .str z ∧ Q (.bl (!decide (c ∈ z.cps.toList))) H) ∨ (rIn K true x y H Q ∨ Z6v K x y H Q)
theorem Z6c {X : Cx} (hu : X.A.units + 65 < cLine) (hK : X.K = K := by rfl) : OpR X (compareOp .In) (rInA K) := by
  subst hK
  exact op_in_sign.or (op_in_seq.or (Zjh hu))
theorem Z2f {X : Cx} (hu : X.A.units + 65 < cLine) (hK : X.K = K := by rfl) : OpR X (compareOp .NotIn) (Zh1 K) := by
  subst hK
  exact op_notIn_sign.or (op_notIn_seq.or (Zd9 hu))
theorem Zji : OpD K (fun x y H Q => rIn K false x y H Q ∨ Zeh K x y H Q) Zhw := by
  intro B F H σ env x y a b c Q s hx hy hg q
  have key : ∀ (ds : List D) (p : Addr) (ys : List V), y = .ref p -> (SqL K H p ys ∨ SqT K H p ys) -> DrA K F ys ds -> (inL a ds).map D.bl = some c -> rIn K false x y H Q ∨ Zeh K x y H Q := by
    intro ds p ys hy0 hs hA hc
    cases hk : inL a ds with
    | none => rw [hk] at hc; cases hc
    | some k =>
      rw [hk] at hc
      cases hc
      have qk := q _ F H (Ex.refl F) (Ex.refl H) s (.bl k)
      rcases Zhv (Q := fun _ => True) s hx hs hA hk with ⟨h1, h2, h3⟩ | ⟨d, es, h1, h2, h3, h4, h5⟩
      · exact Or.inl ⟨p, ys, hy0, hs, h1, h2, by rw [h3]; exact qk⟩
      · exact Or.inr ⟨p, d, es, hy0, h1, by rw [hy0]; exact h2, h3, h4, by rw [h5]; exact qk⟩
  unfold Zhw at hg
  split at hg
  · obtain ⟨p, ys, hy0, h1, h2⟩ := hy.lst s.ex
    exact key _ p ys hy0 (Or.inl h1) h2 hg
  · obtain ⟨p, ys, hy0, h1, h2⟩ := hy.tup s.ex
    exact key _ p ys hy0 (Or.inr h1) h2 hg
  · cases hg
theorem Zdc : OpD K (fun x y H Q => rIn K true x y H Q ∨ Z6v K x y H Q) Z8v := by
  intro B F H σ env x y a b c Q s hx hy hg q
  have key : ∀ (ds : List D) (p : Addr) (ys : List V), y = .ref p -> (SqL K H p ys ∨ SqT K H p ys) -> DrA K F ys ds -> (inL a ds).map (fun k => D.bl (!k)) = some c -> rIn K true x y H Q ∨ Z6v K x y H Q := by
    intro ds p ys hy0 hs hA hc
    cases hk : inL a ds with
    | none => rw [hk] at hc; cases hc
    | some k =>
      rw [hk] at hc
      cases hc
      have qk := q _ F H (Ex.refl F) (Ex.refl H) s (.bl (!k))
      rcases Zhv (Q := fun _ => True) s hx hs hA hk with ⟨h1, h2, h3⟩ | ⟨d, es, h1, h2, h3, h4, h5⟩
      · exact Or.inl ⟨p, ys, hy0, hs, h1, h2, by rw [h3]; exact qk⟩
      · exact Or.inr ⟨p, d, es, hy0, h1, by rw [hy0]; exact h2, h3, h4, by rw [h5]; exact qk⟩
  unfold Z8v at hg
  split at hg
  · obtain ⟨p, ys, hy0, h1, h2⟩ := hy.lst s.ex
    exact key _ p ys hy0 (Or.inl h1) h2 hg
  · obtain ⟨p, ys, hy0, h1, h2⟩ := hy.tup s.ex
    exact key _ p ys hy0 (Or.inr h1) h2 hg
  · cases hg
def inA : D -> D -> Option D := orG inSG Zhw
def Z39 : D -> D -> Option D := orG Zdf Z8v
theorem Z6d : OpD K (rInA K) inA := OpD.or Zp4 Zji
theorem Z2g : OpD K (Zh1 K) Z39 := OpD.or Zha Zdc
end
end DM
namespace DM
open PySem PySem.Spec PyProof.Rows L2 DL
structure Exn where
  C : Str
  fs : List (Str × D)
inductive R (β α : Type) where
  | ok (a : α) | ex (x : Exn) (b : β) | no
namespace R
variable {β α γ : Type}
def bind (m : R β α) (k : α -> R β γ) : R β γ := match m with
  | .ok a => k a
  | .ex x b => .ex x b
  | .no => .no
def call (m : R Unit α) (xb : β) (k : α -> R β γ) : R β γ := match m with
  | .ok a => k a
  | .ex x _ => .ex x xb
  | .no => .no
def call1e (m : R Unit (D × D)) (xb : β) (k : D -> D -> R β γ) : R β γ := match m with
  | .ok (a, w) => k a w
  | .ex x _ => .ex x xb
  | .no => .no
def make (m : R Unit (D × D)) (xb : β) (k : D -> R β γ) : R β γ := match m with
  | .ok (.non, o) => k o
  | .ok _ => .no
  | .ex x _ => .ex x xb
  | .no => .no
def lft (o : Option α) (k : α -> R β γ) : R β γ := match o with
  | some a => k a
  | none => .no
def asB (d : D) (k : Bool -> R β γ) : R β γ := match d with
  | .bl b => k b
  | _ => .no
def asI (d : D) (k : Int -> R β γ) : R β γ := match d with
  | .int i => k i
  | _ => .no
def asL (d : D) (k : List D -> R β γ) : R β γ := match d with
  | .lst ds => k ds
  | _ => .no
def asQ (d : D) (k : List D -> R β γ) : R β γ := match d with
  | .tup ds => k ds
  | .lst ds => k ds
  | _ => .no
def few (ds : List D) (k : List D -> R β γ) : R β γ := if DM.few ds.length then k ds else .no
end R
def XR (K : PySem.W.Frag) (F : Hp) (x : Exn) (c : Value) (dd : Option Addr) : Prop :=
  ∃ c' d fs, c = .ref c' ∧ Cl K x.C c' ∧ dd = some d ∧ F d = some (.xd fs) ∧ fs.map (·.1) = x.fs.map (·.1) ∧ DrA K F (fs.map (·.2)) (x.fs.map (·.2))
abbrev XE := L2.St -> XK
abbrev TB (b : Type) := L2.St -> Hp -> (b -> Hp -> Prop) -> Prop
def teC (X : Cx) (e : Expr) : TE := fun σ H Q => ∃ t, PE X e t ∧ t σ H Q
theorem pe_C {X : Cx} {e : Expr} : PE X e (teC X e) := ⟨fun pins s σ H Q I ⟨_, h, ht⟩ => h.run pins s σ H Q I ht⟩
def ttC (X : Cx) (e : Expr) : TT := fun σ H Q => ∃ t, PT X e t ∧ t σ H Q
theorem pt_C {X : Cx} {e : Expr} : PT X e (ttC X e) := ⟨fun pins s σ H Q I ⟨_, h, ht⟩ => h.run pins s σ H Q I ht⟩
def twC (X : Cx) (e : Expr) : TT := fun σ H Q => ∃ t, PW X e t ∧ t σ H Q
theorem pw_C {X : Cx} {e : Expr} : PW X e (twC X e) := ⟨fun whole pins s σ H Q I ⟨_, h, ht⟩ => h.run whole pins s σ H Q I ht⟩
def taC (X : Cx) (es : List Expr) : TA := fun σ H Q => ∃ t, PA X es t ∧ t σ H Q
theorem pa_C {X : Cx} {es : List Expr} : PA X es (taC X es) := ⟨fun pos pins s σ H Q I ⟨_, h, ht⟩ => h.run pos pins s σ H Q I ht⟩
def toC (X : Cx) (e : Option Expr) : TO := fun σ H Q => ∃ t, PO X e t ∧ t σ H Q
theorem po_C {X : Cx} {e : Option Expr} : PO X e (toC X e) := ⟨fun pins s σ H Q I ⟨_, h, ht⟩ => h.run pins s σ H Q I ht⟩
structure Gx (K : PySem.W.Frag) (B : Bs) (E : XE) {β γ : Type} (F : Hp) (σ : L2.St) (xF : Fm) (xb : β) (G : R β γ -> Prop) : Prop where
  no : ¬ G .no
  ex : ∀ x, G (.ex x xb) -> ∀ c dd F' H', Ex F F' -> SR K B F' H' σ xF -> XR K F' x c dd -> E σ c dd H'
theorem Gx.mono {K : PySem.W.Frag} {B : Bs} {E : XE} {β γ : Type} {F F1 : Hp} {σ : L2.St} {xF : Fm} {xb : β} {G : R β γ -> Prop} (e : Ex F F1) (h : Gx K B E F σ xF xb G) : Gx K B E F1 σ xF xb G :=
  ⟨h.no, fun x hx c dd F' H' e1 => h.ex x hx c dd F' H' (e.trans e1)⟩
section
variable (K : PySem.W.Frag) (E : XE) {β γ b a : Type} (xF : Fm) (xb : β) (env : Fm)
def AJ (t : TB b) (rel : Bs -> Hp -> Hp -> L2.St -> b -> a -> Prop) (c : (a -> R β γ) -> R β γ) : Prop :=
  ∀ B F H σ Q k (G : R β γ -> Prop), SR K B F H σ env -> Wk env xF -> Gx K B E F σ xF xb G ->
    (∀ d v F' H', G (k d) -> Ex F F' -> Ex H H' -> SR K B F' H' σ env -> rel B F' H' σ v d -> Q v H') -> G (c k) -> t σ H Q
end
section
variable (X : Cx) (K : PySem.W.Frag) (E : XE) {β γ : Type} (xF : Fm) (xb : β) (env : Fm)
def AE (e : Expr) (c : (D -> R β γ) -> R β γ) : Prop := X.K = K ∧ AJ K E xF xb env (teC X e) (fun _ F _ _ v d => Dr K F v d) c
def AL (e : Expr) (c : (D -> R β γ) -> R β γ) : Prop := X.K = K ∧ AJ K E xF xb env (teC X e) (fun _ F H _ v d => Dh K F H v d) c
def AN (fs : List Str) (e : Expr) (c : (D -> R β γ) -> R β γ) : Prop := X.K = K ∧ AJ K E xF xb env (teC X e) (fun B F H σ v d => rN K B F H σ env v d fs) c
def AT (e : Expr) (c : (Bool -> R β γ) -> R β γ) : Prop := X.K = K ∧ AJ K E xF xb env (ttC X e) (fun _ _ _ _ v d => v = d) c
def AW (e : Expr) (c : (Bool -> R β γ) -> R β γ) : Prop := X.K = K ∧ AJ K E xF xb env (twC X e) (fun _ _ _ _ v d => v = d) c
def AA (es : List Expr) (c : (List D -> R β γ) -> R β γ) : Prop := X.K = K ∧ AJ K E xF xb env (taC X es) (fun _ F _ _ vs ds => DrA K F vs ds) c
def AAL (es : List Expr) (c : (List D -> R β γ) -> R β γ) : Prop := X.K = K ∧ AJ K E xF xb env (taC X es) (fun _ F H _ vs ds => DhA K F H vs ds) c
def AO (e : Option Expr) (c : (Option Int -> R β γ) -> R β γ) : Prop := X.K = K ∧ AJ K E xF xb env (toC X e) (fun _ _ _ _ v d => v = d) c
end
section
variable {X : Cx} {K : PySem.W.Frag} {E : XE} {β γ : Type} {xF : Fm} {xb : β} {env : Fm} {e a b c : Expr} {es : List Expr} {pos : Pos} {c1 c2 c3 : (D -> R β γ) -> R β γ}
theorem DhA.mono {F H F' H' : Hp} (e : Ex F F') (e2 : Ex H H') : ∀ {vs : List V} {ds : List D}, DhA K F H vs ds -> DhA K F' H' vs ds
  | [], [], _ => trivial
  | _ :: _, _ :: _, h => ⟨h.1.mono e e2, DhA.mono e e2 h.2⟩
  | [], _ :: _, h => h.elim
  | _ :: _, [], h => h.elim
theorem Z0 (h : AE X K E xF xb env e c1) : AL X K E xF xb env e c1 :=
  ⟨h.1, fun B F H σ Q k G s w g hk hG => h.2 B F H σ Q k G s w g (fun d v F' H' h1 e1 e2 s1 d1 => hk d v F' H' h1 e1 e2 s1 (.inl d1)) hG⟩
theorem Zx {fs : List Str} (h : AN X K E xF xb env fs e c1) : AE X K E xF xb env e c1 :=
  ⟨h.1, fun B F H σ Q k G s w g hk hG => h.2 B F H σ Q k G s w g (fun d v F' H' h1 e1 e2 s1 d1 => by
    obtain ⟨F2, e3, d2, s2⟩ := s1.frzN d1
    exact hk d v F2 H' h1 (e1.trans e3) e2 s2 d2) hG⟩
theorem av (i : Nat) {x : Str} {d : D} (hi : fget env i = .fz d := by rfl) (hK : X.K = K := by rfl) (hN : X.N[i]? = some x := by rfl) (hv : Vis X.env.scope x := by first | exact Or.inl rfl | exact Or.inr (Or.inl rfl) | exact Or.inr (Or.inr rfl)) (hd : (x == ("__debug__" : Str)) = false := by decide)
    (hcd : (x == ("__classdict__" : Str)) = false := by decide) : AE X K E xF xb env (.Name x pos) (fun (k : D -> R β γ) => k d) :=
  ⟨hK, fun B F H σ Q k G s w g hk hG => by
    obtain ⟨v, h1, h2⟩ := s.fz i d hi
    exact ⟨_, pe_var hN hv hd hcd, v, h1, hk d v F H hG (Ex.refl F) (Ex.refl H) s h2⟩⟩
theorem al (i : Nat) {x : Str} {d : D} {t : Option Nat} (hi : fget env i = .ow t d [] := by rfl) (hK : X.K = K := by rfl) (hN : X.N[i]? = some x := by rfl) (hv : Vis X.env.scope x := by first | exact Or.inl rfl | exact Or.inr (Or.inl rfl) | exact Or.inr (Or.inr rfl)) (hd : (x == ("__debug__" : Str)) = false := by decide)
    (hcd : (x == ("__classdict__" : Str)) = false := by decide) : AL X K E xF xb env (.Name x pos) (fun (k : D -> R β γ) => k d) :=
  ⟨hK, fun B F H σ Q k G s w g hk hG => by
    obtain ⟨ft, hf⟩ := s.own
    obtain ⟨p, h1, h2, _⟩ := hf.ow i t d [] hi
    obtain ⟨_, o, h3, h4⟩ := h2.plain
    exact ⟨_, pe_var hN hv hd hcd, _, h1, hk d _ F H hG (Ex.refl F) (Ex.refl H) s (.inr ⟨p, _, rfl, h3, h4⟩)⟩⟩
theorem Zg8 {v : V} {d : D} (hp : PE X e (tC v)) (h : ∀ F, Dr K F v d) (hK : X.K = K) : AE X K E xF xb env e (fun (k : D -> R β γ) => k d) :=
  ⟨hK, fun B F H σ Q k G s w g hk hG => ⟨_, hp, hk d v F H hG (Ex.refl F) (Ex.refl H) s (h F)⟩⟩
theorem Z5 {i j} (hK : X.K = K := by rfl) : AE X K E xF xb env (.Constant (.int i) j pos) (fun (k : D -> R β γ) => k (.int i)) := Zg8 pe_int (fun _ => .int i) hK
theorem a_bl {b j} (hK : X.K = K := by rfl) : AE X K E xF xb env (.Constant (.bool b) j pos) (fun (k : D -> R β γ) => k (.bl b)) := Zg8 pe_bl (fun _ => .bl b) hK
theorem Z5o {j} (hK : X.K = K := by rfl) : AE X K E xF xb env (.Constant .none j pos) (fun (k : D -> R β γ) => k .non) := Zg8 pe_non (fun _ => .non) hK
theorem Z4 {x j} (hK : X.K = K := by rfl) : AE X K E xF xb env (.Constant (.str x) j pos) (fun (k : D -> R β γ) => k (.str x)) := Zg8 pe_str (fun _ => .str x) hK
structure GlobD (K : PySem.W.Frag) (mg : Str -> Option Value) (x : Str) (d : D) : Prop where
  ex : ∃ v u, mg x = some u ∧ RelV v u ∧ ∀ F, Dr K F v d
theorem Zm {x : Str} {d : D} (g : GlobD K X.mg x d) (hg : Gl X x) (hK : X.K = K := by rfl) (hd : (x == ("__debug__" : Str)) = false := by decide) : AE X K E xF xb env (.Name x pos) (fun (k : D -> R β γ) => k d) := by
  obtain ⟨v, u, hm, r, hdr⟩ := g.ex
  exact Zg8 (pe_glob hg hm r hd) hdr hK
theorem Zko {x : Str} {T : String} (hv : bootBuiltins x = some (.type T)) (hm : X.mg x = none) (hg : Gl X x) (hK : X.K = K := by rfl) (hn : x ≠ "__name__" := by decide) (hd : (x == ("__debug__" : Str)) = false := by decide) : AE X K E xF xb env (.Name x pos) (fun (k : D -> R β γ) => k (.ty T)) :=
  Zg8 (v := .ty T) (pe_bltn hg hm hv rfl hn hd) (fun _ => .ty T) hK
theorem Zkf {r : R2} {g : D -> D -> Option D} (hg : OpD K r g) (ha : AL X K E xF xb env a c1) (hb : AL X K E xF xb env b c2) :
    AJ K E xF xb env (tOp r (teC X a) (teC X b)) (fun _ F _ _ v d => Dr K F v d) (fun (k : D -> R β γ) => c1 fun x => c2 fun y => R.lft (g x y) k) := fun B F H σ Q k G s w gx hk hG =>
  ha.2 B F H σ _ _ G s w gx (fun x v F1 H1 h1 e1 eh1 s1 d1 => hb.2 B F1 H1 σ _ _ G s1 w (gx.mono e1) (fun y u F2 H2 h2 e2 eh2 s2 d2 => by
    cases hc : g x y with
    | none => rw [hc] at h2; exact (gx.no h2).elim
    | some z =>
      rw [hc] at h2
      exact hg B F2 H2 σ env v u x y z Q s2 (d1.mono e2 eh2) d2 hc fun v' F' H' e' eh' s' d' => hk z v' F' H' h2 (e1.trans (e2.trans e')) (eh1.trans (eh2.trans eh')) s' d') h1) hG
theorem a_op {op : Operator} {r : R2} {g : D -> D -> Option D} (ho : OpR X (binaryOp op) r) (hg : OpD K r g) (ha : AL X K E xF xb env a c1) (hb : AL X K E xF xb env b c2) : AE X K E xF xb env (.BinOp a op b pos) (fun (k : D -> R β γ) => c1 fun x => c2 fun y => R.lft (g x y) k) :=
  ⟨ha.1, fun B F H σ Q k G s w gx hk hG => ⟨_, pe_op ho pe_C pe_C, Zkf hg ha hb B F H σ Q k G s w gx hk hG⟩⟩
theorem Z2o {op : CmpOp} {r : R2} {g : D -> D -> Option D} (ho : OpR X (compareOp op) r) (hg : OpD K r g) (ha : AL X K E xF xb env a c1) (hb : AL X K E xF xb env b c2) (hm : behindInMarks op b = false) : AE X K E xF xb env (.Compare a [op] [b] pos) (fun (k : D -> R β γ) => c1 fun x => c2 fun y => R.lft (g x y) k) :=
  ⟨ha.1, fun B F H σ Q k G s w gx hk hG => ⟨_, pe_cmpR ho pe_C pe_C hm, Zkf hg ha hb B F H σ Q k G s w gx hk hG⟩⟩
theorem a_ix (ha : AL X K E xF xb env a c1) (hb : AL X K E xF xb env b c2) (hs : PlainIx b := by exact fun _ _ => rfl) : AE X K E xF xb env (.Subscript a b pos) (fun (k : D -> R β γ) => c1 fun x => c2 fun y => R.lft (ixG x y) k) :=
  ⟨ha.1, fun B F H σ Q k G s w gx hk hG => ⟨_, pe_ix ix_seq pe_C pe_C hs, Zkf (ha.1 ▸ Zp3) ha hb B F H σ Q k G s w gx hk hG⟩⟩
theorem Ze2 {t : TE} {c : (D -> R β γ) -> R β γ} (h : AJ K E xF xb env t (fun _ F _ _ v d => Dr K F v d) c) : AJ K E xF xb env (tTest t) (fun _ _ _ _ v d => v = d) (fun (k : Bool -> R β γ) => c fun d => R.asB d k) := fun B F H σ Q k G s w gx hk hG =>
  h B F H σ _ _ G s w gx (fun d v F1 H1 h1 e1 eh1 s1 d1 => by
    cases d <;> first | exact (gx.no h1).elim | skip
    cases d1
    exact ⟨_, rfl, hk _ _ F1 H1 h1 e1 eh1 s1 rfl⟩) hG
theorem Z9 {op : CmpOp} {r : R2} {g : D -> D -> Option D} (ho : OpR X (compareOp op) r) (hg : OpD K r g) (ha : AL X K E xF xb env a c1) (hb : AL X K E xF xb env b c2) (hm : behindInMarks op b = false) : AT X K E xF xb env (.Compare a [op] [b] pos) (fun (k : Bool -> R β γ) => c1 fun x => c2 fun y => R.lft (g x y) fun z => R.asB z k) :=
  ⟨ha.1, fun B F H σ Q k G s w gx hk hG => ⟨_, pt_cmpR ho pe_C pe_C hm, Ze2 (Zkf hg ha hb) B F H σ Q k G s w gx hk hG⟩⟩
theorem Z26 (h : AE X K E xF xb env e c1) (he : ∀ whole, isTrue e X.env whole = (do let v ← whole; standAt e.pos; holding [v] (truthy v)) := by intro _; rfl) : AT X K E xF xb env e (fun (k : Bool -> R β γ) => c1 fun d => R.asB d k) :=
  ⟨h.1, fun B F H σ Q k G s w gx hk hG => ⟨_, pt_val pe_C he, Ze2 h.2 B F H σ Q k G s w gx hk hG⟩⟩
theorem Z79 {ct : (Bool -> R β γ) -> R β γ} (h : AT X K E xF xb env e ct) : AT X K E xF xb env (.UnaryOp .Not e pos) (fun (k : Bool -> R β γ) => ct fun b => k (!b)) :=
  ⟨h.1, fun B F H σ Q k G s w gx hk hG => ⟨_, pt_not pt_C, h.2 B F H σ _ _ G s w gx (fun d v F1 H1 h1 e1 eh1 s1 d1 => by subst d1; exact hk _ _ F1 H1 h1 e1 eh1 s1 rfl) hG⟩⟩
theorem Zqs (h : AE X K E xF xb env e c1) : AE X K E xF xb env (.UnaryOp .Not e pos) (fun (k : D -> R β γ) => c1 fun d => R.asB d fun b => k (.bl (!b))) :=
  ⟨h.1, fun B F H σ Q k G s w gx hk hG => ⟨_, pe_not pe_C, h.2 B F H σ _ _ G s w gx (fun d v F1 H1 h1 e1 eh1 s1 d1 => by
    cases d <;> first | exact (gx.no h1).elim | skip
    cases d1
    exact ⟨_, rfl, hk _ _ F1 H1 h1 e1 eh1 s1 (.bl _)⟩) hG⟩⟩
theorem Zqt (h : AL X K E xF xb env e c1) : AE X K E xF xb env (.UnaryOp .USub e pos) (fun (k : D -> R β γ) => c1 fun d => R.asI d fun i => k (.int (-i))) :=
  ⟨h.1, fun B F H σ Q k G s w gx hk hG => ⟨_, pe_un un_neg pe_C, h.2 B F H σ _ _ G s w gx (fun d v F1 H1 h1 e1 eh1 s1 d1 => by
    cases d <;> first | exact (gx.no h1).elim | skip
    exact ⟨_, d1.int, hk _ _ F1 H1 h1 e1 eh1 s1 (.int _)⟩) hG⟩⟩
def Gd {β α γ : Type} (G : R β γ -> Prop) (k : α -> R β γ) : R β α -> Prop := fun m => G (m.bind k)
theorem Gd.gx {B : Bs} {F : Hp} {σ : L2.St} {α : Type} {G : R β γ -> Prop} {k : α -> R β γ} (g : Gx K B E F σ xF xb G) : Gx K B E F σ xF xb (Gd G k) := ⟨g.no, g.ex⟩
theorem Z2b {ct : (Bool -> R β γ) -> R β γ} (h : AT X K E xF xb env a ct) : AW X K E xF xb env (.BoolOp .And [a] pos) ct :=
  ⟨h.1, fun B F H σ Q k G s w gx hk hG => ⟨_, pw_and1 pt_C, h.2 B F H σ Q k G s w gx hk hG⟩⟩
theorem Z84 {ct : (Bool -> R β γ) -> R β γ} (h : AT X K E xF xb env a ct) : AW X K E xF xb env (.BoolOp .Or [a] pos) ct :=
  ⟨h.1, fun B F H σ Q k G s w gx hk hG => ⟨_, pw_or1 pt_C, h.2 B F H σ Q k G s w gx hk hG⟩⟩
theorem Z3f {ct cu : (Bool -> R β Bool) -> R β Bool} {rest : List Expr} (h : AT X K E xF xb env a ct) (h' : AW X K E xF xb env (.BoolOp .And (b :: rest) pos) cu) :
    AW X K E xF xb env (.BoolOp .And (a :: b :: rest) pos) (fun (k : Bool -> R β γ) => (ct fun x => if x then cu R.ok else R.ok false).bind k) :=
  ⟨h.1, fun B F H σ Q k G s w gx hk hG => ⟨_, pw_and pt_C pw_C, h.2 B F H σ _ _ (Gd G k) s w (Gd.gx gx) (fun d v F1 H1 h1 e1 eh1 s1 d1 => by
    subst d1
    cases v with
    | true => exact iteT (h'.2 B F1 H1 σ _ R.ok (Gd G k) s1 w ((Gd.gx gx).mono e1) (fun d v F2 H2 h2 e2 eh2 s2 d2 => hk d v F2 H2 h2 (e1.trans e2) (eh1.trans eh2) s2 d2) h1)
    | false => exact iteF (hk _ _ F1 H1 h1 e1 eh1 s1 rfl)) hG⟩⟩
theorem Zba {ct cu : (Bool -> R β Bool) -> R β Bool} {rest : List Expr} (h : AT X K E xF xb env a ct) (h' : AW X K E xF xb env (.BoolOp .Or (b :: rest) pos) cu) :
    AW X K E xF xb env (.BoolOp .Or (a :: b :: rest) pos) (fun (k : Bool -> R β γ) => (ct fun x => if x then R.ok true else cu R.ok).bind k) :=
  ⟨h.1, fun B F H σ Q k G s w gx hk hG => ⟨_, pw_or pt_C pw_C, h.2 B F H σ _ _ (Gd G k) s w (Gd.gx gx) (fun d v F1 H1 h1 e1 eh1 s1 d1 => by
    subst d1
    cases v with
    | false => exact iteF (h'.2 B F1 H1 σ _ R.ok (Gd G k) s1 w ((Gd.gx gx).mono e1) (fun d v F2 H2 h2 e2 eh2 s2 d2 => hk d v F2 H2 h2 (e1.trans e2) (eh1.trans eh2) s2 d2) h1)
    | true => exact iteT (hk _ _ F1 H1 h1 e1 eh1 s1 rfl)) hG⟩⟩
theorem AW.at {ct : (Bool -> R β γ) -> R β γ} (h : AW X K E xF xb env e ct) : AT X K E xF xb env e ct :=
  ⟨h.1, fun B F H σ Q k G s w gx hk hG => ⟨_, PW.pt pw_C, h.2 B F H σ Q k G s w gx hk hG⟩⟩
theorem Z4z {op} (h : AE X K E xF xb env a c1) : AE X K E xF xb env (.BoolOp op [a] pos) c1 :=
  ⟨h.1, fun B F H σ Q k G s w gx hk hG => ⟨_, pe_one pe_C, h.2 B F H σ Q k G s w gx hk hG⟩⟩
theorem Z8b {d1 d2 : (D -> R β D) -> R β D} {rest : List Expr} (h : AE X K E xF xb env a d1) (h' : AE X K E xF xb env (.BoolOp .And (b :: rest) pos) d2) :
    AE X K E xF xb env (.BoolOp .And (a :: b :: rest) pos) (fun (k : D -> R β γ) => (d1 fun x => R.asB x fun x => if x then d2 R.ok else R.ok (.bl false)).bind k) :=
  ⟨h.1, fun B F H σ Q k G s w gx hk hG => ⟨_, pe_and pe_C pe_C, h.2 B F H σ _ _ (Gd G k) s w (Gd.gx gx) (fun d v F1 H1 h1 e1 eh1 s1 r1 => by
    cases d <;> first | exact (gx.no h1).elim | skip
    cases r1
    rename_i q
    refine ⟨q, rfl, ?_⟩
    cases q with
    | true => exact iteT (h'.2 B F1 H1 σ _ R.ok (Gd G k) s1 w ((Gd.gx gx).mono e1) (fun d v F2 H2 h2 e2 eh2 s2 d2 => hk d v F2 H2 h2 (e1.trans e2) (eh1.trans eh2) s2 d2) h1)
    | false => exact iteF (hk _ _ F1 H1 h1 e1 eh1 s1 (.bl _))) hG⟩⟩
theorem a_or {d1 d2 : (D -> R β D) -> R β D} {rest : List Expr} (h : AE X K E xF xb env a d1) (h' : AE X K E xF xb env (.BoolOp .Or (b :: rest) pos) d2) :
    AE X K E xF xb env (.BoolOp .Or (a :: b :: rest) pos) (fun (k : D -> R β γ) => (d1 fun x => R.asB x fun x => if x then R.ok (.bl true) else d2 R.ok).bind k) :=
  ⟨h.1, fun B F H σ Q k G s w gx hk hG => ⟨_, pe_or pe_C pe_C, h.2 B F H σ _ _ (Gd G k) s w (Gd.gx gx) (fun d v F1 H1 h1 e1 eh1 s1 r1 => by
    cases d <;> first | exact (gx.no h1).elim | skip
    cases r1
    rename_i q
    refine ⟨q, rfl, ?_⟩
    cases q with
    | false => exact iteF (h'.2 B F1 H1 σ _ R.ok (Gd G k) s1 w ((Gd.gx gx).mono e1) (fun d v F2 H2 h2 e2 eh2 s2 d2 => hk d v F2 H2 h2 (e1.trans e2) (eh1.trans eh2) s2 d2) h1)
    | true => exact iteT (hk _ _ F1 H1 h1 e1 eh1 s1 (.bl _))) hG⟩⟩
theorem a_if {ct : (Bool -> R β D) -> R β D} {d1 d2 : (D -> R β D) -> R β D} (h : AT X K E xF xb env c ct) (ha : AE X K E xF xb env a d1) (hb : AE X K E xF xb env b d2) :
    AE X K E xF xb env (.IfExp c a b pos) (fun (k : D -> R β γ) => (ct fun x => if x then d1 R.ok else d2 R.ok).bind k) :=
  ⟨h.1, fun B F H σ Q k G s w gx hk hG => ⟨_, pe_ifExp pt_C pe_C pe_C, h.2 B F H σ _ _ (Gd G k) s w (Gd.gx gx) (fun d v F1 H1 h1 e1 eh1 s1 r1 => by
    subst r1
    cases v with
    | true => exact iteT (ha.2 B F1 H1 σ _ R.ok (Gd G k) s1 w ((Gd.gx gx).mono e1) (fun d v F2 H2 h2 e2 eh2 s2 d2 => hk d v F2 H2 h2 (e1.trans e2) (eh1.trans eh2) s2 d2) h1)
    | false => exact iteF (hb.2 B F1 H1 σ _ R.ok (Gd G k) s1 w ((Gd.gx gx).mono e1) (fun d v F2 H2 h2 e2 eh2 s2 d2 => hk d v F2 H2 h2 (e1.trans e2) (eh1.trans eh2) s2 d2) h1)) hG⟩⟩
theorem Zkg {r r' : R2} {g g' : D -> D -> Option D} {d1 d2 d3 : (D -> R β D) -> R β D} (hg : OpD K r g) (hg' : OpD K r' g') (ha : AL X K E xF xb env a d1) (hb : AL X K E xF xb env b d2) (hc : AL X K E xF xb env c d3) :
    AJ K E xF xb env (tChain r r' (teC X a) (teC X b) (teC X c)) (fun _ F _ _ v d => Dr K F v d) (fun (k : D -> R β γ) => (d1 fun x => d2 fun y => R.lft (g x y) fun z => R.asB z fun z => if z then d3 fun u => R.lft (g' y u) R.ok else R.ok (.bl false)).bind k) := fun B F H σ Q k G s w gx hk hG =>
  ha.2 B F H σ _ _ (Gd G k) s w (Gd.gx gx) (fun x v F1 H1 h1 e1 eh1 s1 r1 => hb.2 B F1 H1 σ _ _ (Gd G k) s1 w ((Gd.gx gx).mono e1) (fun y u F2 H2 h2 e2 eh2 s2 r2 => by
    cases hc1 : g x y with
    | none => rw [hc1] at h2; exact (gx.no h2).elim
    | some z =>
      rw [hc1] at h2
      refine hg B F2 H2 σ env v u x y z _ s2 (r1.mono e2 eh2) r2 hc1 fun v' F' H' e' eh' s' d' => ?_
      cases z <;> first | exact (gx.no h2).elim | skip
      cases d'
      rename_i q
      refine ⟨q, rfl, ?_⟩
      cases q with
      | false => exact iteF (hk _ _ F' H' h2 (e1.trans (e2.trans e')) (eh1.trans (eh2.trans eh')) s' (.bl _))
      | true =>
        refine iteT (hc.2 B F' H' σ _ _ (Gd G k) s' w ((Gd.gx gx).mono (e1.trans (e2.trans e'))) (fun u' w' F3 H3 h3 e3 eh3 s3 r3 => ?_) h2)
        cases hc2 : g' y u' with
        | none => rw [hc2] at h3; exact (gx.no h3).elim
        | some z2 =>
          rw [hc2] at h3
          exact hg' B F3 H3 σ env u w' y u' z2 Q s3 (r2.mono (e'.trans e3) (eh'.trans eh3)) r3 hc2 fun v' F4 H4 e4 eh4 s4 d4 => hk z2 v' F4 H4 h3 (e1.trans (e2.trans (e'.trans (e3.trans e4)))) (eh1.trans (eh2.trans (eh'.trans (eh3.trans eh4)))) s4 d4) h1) hG
theorem Zk9 {op op' : CmpOp} {r r' : R2} {g g' : D -> D -> Option D} {d1 d2 d3 : (D -> R β D) -> R β D} (ho : OpR X (compareOp op) r) (hg : OpD K r g) (ho' : OpR X (compareOp op') r') (hg' : OpD K r' g') (ha : AL X K E xF xb env a d1) (hb : AL X K E xF xb env b d2) (hc : AL X K E xF xb env c d3)
    (hm : lastMarks [op, op'] [b, c] = false := by with_unfolding_all rfl) : AT X K E xF xb env (.Compare a [op, op'] [b, c] pos) (fun (k : Bool -> R β γ) => (d1 fun x => d2 fun y => R.lft (g x y) fun z => R.asB z fun z => if z then d3 fun u => R.lft (g' y u) R.ok else R.ok (.bl false)).bind fun z => R.asB z k) :=
  ⟨ha.1, fun B F H σ Q k G s w gx hk hG => ⟨_, pt_chain ho ho' pe_C pe_C pe_C hm, Ze2 (Zkg hg hg' ha hb hc) B F H σ Q k G s w gx hk hG⟩⟩
theorem Z2 (hK : X.K = K := by rfl) : AA X K E xF xb env [] (fun (k : List D -> R β γ) => k []) := ⟨hK, fun B F H σ Q k G s w gx hk hG => ⟨_, pa_nil, hk [] [] F H hG (Ex.refl F) (Ex.refl H) s .nil⟩⟩
theorem Z1 {cs : (List D -> R β γ) -> R β γ} (ha : AE X K E xF xb env e c1) (hr : AA X K E xF xb env es cs) (hs : starEach (e :: es) X.env = (false, eval e X.env) :: starEach es X.env := by rfl) : AA X K E xF xb env (e :: es) (fun (k : List D -> R β γ) => c1 fun d => cs fun ds => k (d :: ds)) :=
  ⟨ha.1, fun B F H σ Q k G s w gx hk hG => ⟨_, pa_cons pe_C pa_C hs, ha.2 B F H σ _ _ G s w gx (fun d v F1 H1 h1 e1 eh1 s1 d1 => hr.2 B F1 H1 σ _ _ G s1 w (gx.mono e1) (fun ds vs F2 H2 h2 e2 eh2 s2 d2 =>
    hk (d :: ds) (v :: vs) F2 H2 h2 (e1.trans e2) (eh1.trans eh2) s2 (.cons (d1.mono e2) d2)) h1) hG⟩⟩
theorem Z7 (hK : X.K = K := by rfl) : AAL X K E xF xb env [] (fun (k : List D -> R β γ) => k []) := ⟨hK, fun B F H σ Q k G s w gx hk hG => ⟨_, pa_nil, hk [] [] F H hG (Ex.refl F) (Ex.refl H) s trivial⟩⟩
theorem Z3 {cs : (List D -> R β γ) -> R β γ} (ha : AL X K E xF xb env e c1) (hr : AAL X K E xF xb env es cs) (hs : starEach (e :: es) X.env = (false, eval e X.env) :: starEach es X.env := by rfl) : AAL X K E xF xb env (e :: es) (fun (k : List D -> R β γ) => c1 fun d => cs fun ds => k (d :: ds)) :=
  ⟨ha.1, fun B F H σ Q k G s w gx hk hG => ⟨_, pa_cons pe_C pa_C hs, ha.2 B F H σ _ _ G s w gx (fun d v F1 H1 h1 e1 eh1 s1 d1 => hr.2 B F1 H1 σ _ _ G s1 w (gx.mono e1) (fun ds vs F2 H2 h2 e2 eh2 s2 d2 =>
    hk (d :: ds) (v :: vs) F2 H2 h2 (e1.trans e2) (eh1.trans eh2) s2 ⟨d1.mono e2 eh2, d2⟩) h1) hG⟩⟩
theorem Zit {cs : (List D -> R β γ) -> R β γ} {p : Pos} (ha : AL X K E xF xb env e c1) (hr : AA X K E xF xb env es cs) (hs : starEach (.Starred e p :: es) X.env = (true, eval e X.env) :: starEach es X.env := by rfl) :
    AA X K E xF xb env (.Starred e p :: es) (fun (k : List D -> R β γ) => c1 fun d => R.asQ d fun xs => cs fun ds => k (xs ++ ds)) :=
  ⟨ha.1, fun B F H σ Q k G s w gx hk hG => ⟨_, StX.pa_star pe_C pa_C hs, ha.2 B F H σ _ _ G s w gx (fun d v F1 H1 h1 e1 eh1 s1 d1 => by
    have hK := ha.1
    subst hK
    cases d <;> first | exact (gx.no h1).elim | skip
    · obtain ⟨q, xs, rfl, h2, h3⟩ := d1.lstR s1.ex
      exact ⟨q, xs, rfl, .inr (.inl h2), hr.2 B F1 H1 σ _ _ G s1 w (gx.mono e1) (fun ds vs F2 H2 g2 e2 eh2 s2 d2 => hk _ (xs ++ vs) F2 H2 g2 (e1.trans e2) (eh1.trans eh2) s2 ((h3.mono e2).append d2)) h1⟩
    · obtain ⟨q, xs, rfl, h2, h3⟩ := d1.tup s1.ex
      exact ⟨q, xs, rfl, .inl h2, hr.2 B F1 H1 σ _ _ G s1 w (gx.mono e1) (fun ds vs F2 H2 g2 e2 eh2 s2 d2 => hk _ (xs ++ vs) F2 H2 g2 (e1.trans e2) (eh1.trans eh2) s2 ((h3.mono e2).append d2)) h1⟩) hG⟩⟩
theorem Z1e {cs : (List D -> R β γ) -> R β γ} (h : AA X K E xF xb env es cs) : AN X K E xF xb env [] (.List es pos) (fun (k : D -> R β γ) => cs fun ds => R.few ds fun ds => k (.lst ds)) :=
  ⟨h.1, fun B F H σ Q k G s w gx hk hG => ⟨_, pe_lst pa_C, h.2 B F H σ _ _ G s w gx (fun ds vs F1 H1 h1 e1 eh1 s1 d1 => by
    unfold R.few at h1
    split at h1
    · rename_i hz
      refine ⟨by rw [d1.length]; exact of_decide_eq_true hz, fun p hp => ?_⟩
      obtain ⟨s2, n2⟩ := s1.newN hp (Do.lst d1)
      exact hk _ _ F1 _ h1 e1 (eh1.trans (Ex.new hp)) s2 n2
    · exact (gx.no h1).elim) hG⟩⟩
theorem Zg {x1} {cs : (List D -> R β γ) -> R β γ} (h : AA X K E xF xb env es cs) : AE X K E xF xb env (.Tuple es x1 pos) (fun (k : D -> R β γ) => cs fun ds => R.few ds fun ds => k (.tup ds)) :=
  ⟨h.1, fun B F H σ Q k G s w gx hk hG => ⟨_, Zmg pa_C, h.2 B F H σ _ _ G s w gx (fun ds vs F1 H1 h1 e1 eh1 s1 d1 => by
    unfold R.few at h1
    split at h1
    · rename_i hz
      refine ⟨by rw [d1.length]; exact of_decide_eq_true hz, fun p o hp ho => ?_⟩
      obtain ⟨e2, s2, d2⟩ := s1.newT hp ho d1
      exact hk _ _ _ _ h1 (e1.trans e2) (eh1.trans (Ex.new hp)) s2 d2
    · exact (gx.no h1).elim) hG⟩⟩
theorem Z4g (hK : X.K = K := by rfl) : AO X K E xF xb env none (fun (k : Option Int -> R β γ) => k none) := ⟨hK, fun B F H σ Q k G s w gx hk hG => ⟨_, po_none, hk _ _ F H hG (Ex.refl F) (Ex.refl H) s rfl⟩⟩
theorem Z2n (h : AL X K E xF xb env e c1) : AO X K E xF xb env (some e) (fun (k : Option Int -> R β γ) => c1 fun d => R.asI d fun i => k (some i)) :=
  ⟨h.1, fun B F H σ Q k G s w gx hk hG => ⟨_, po_some pe_C, h.2 B F H σ _ _ G s w gx (fun d v F1 H1 h1 e1 eh1 s1 d1 => by
    cases d <;> first | exact (gx.no h1).elim | skip
    exact ⟨_, d1.int, hk _ _ F1 H1 h1 e1 eh1 s1 rfl⟩) hG⟩⟩
theorem Zm1 {B : Bs} {F H : Hp} {σ : L2.St} {v : V} {x : D} {l h : Option Int} {d : D} {Q : VK} (s : SR K B F H σ env) (hv : Dh K F H v x) (hc : slG x l h = some d)
    (hk : ∀ v F' H', Ex F F' -> Ex H H' -> SR K B F' H' σ env -> Dr K F' v d -> Q v H') : Zos K v l h H Q := by
  unfold slG at hc
  split at hc
  · cases hc
    obtain ⟨p, xs, rfl, h1, h2⟩ := hv.lst s.ex
    refine Or.inl (Or.inl ⟨p, xs, rfl, h1, fun q hn => ?_⟩)
    obtain ⟨s4, n4⟩ := s.newN hn (Do.lst (h2.cut l h))
    obtain ⟨F5, e5, d5, s5⟩ := s4.frzN n4
    exact hk _ F5 _ e5 (Ex.new hn) s5 d5
  · cases hc
    rcases hv with hv | ⟨_, _, _, _, hv⟩
    · cases hv with
      | tup h1 h2 =>
        refine Or.inl (Or.inr ⟨_, _, rfl, s.ex.st h1.sq, fun hw => ?_, fun hw q o hn ho => ?_⟩)
        · have h3 := h2.cut l h
          rw [Zg1 hw] at h3
          exact hk _ F H (Ex.refl F) (Ex.refl H) s (.tup h1 h3)
        · obtain ⟨e4, s4, d4⟩ := s.newT hn ho (h2.cut l h)
          exact hk _ _ _ e4 (Ex.new hn) s4 d4
    · cases hv
  · split at hc
    · rename_i hz
      cases hc
      exact Or.inr ⟨_, hv.str, hz, hk _ F H (Ex.refl F) (Ex.refl H) s (.str _)⟩
    · cases hc
  · cases hc
theorem a_sl {lo hi : Option Expr} {p2 : Pos} {cl ch : (Option Int -> R β γ) -> R β γ} (ha : AL X K E xF xb env e c1) (hl : AO X K E xF xb env lo cl) (hh : AO X K E xF xb env hi ch) :
    AE X K E xF xb env (.Subscript e (.Slice lo hi none p2) pos) (fun (k : D -> R β γ) => c1 fun x => cl fun l => ch fun h => R.lft (slG x l h) k) :=
  ⟨ha.1, fun B F H σ Q k G s w gx hk hG => ⟨_, pe_slice ((sl_list.or Zm0).or C8.sl_txt) pe_C po_C po_C, ha.2 B F H σ _ _ G s w gx (fun x v F1 H1 h1 e1 eh1 s1 d1 =>
    hl.2 B F1 H1 σ _ _ G s1 w (gx.mono e1) (fun l l' F2 H2 h2 e2 eh2 s2 d2 => hh.2 B F2 H2 σ _ _ G s2 w (gx.mono (e1.trans e2)) (fun h h' F3 H3 h3 e3 eh3 s3 d3 => by
      subst d2
      subst d3
      cases hc : slG x l' h' with
      | none => rw [hc] at h3; exact (gx.no h3).elim
      | some d =>
        rw [hc] at h3
        have hK := ha.1
        subst hK
        exact Zm1 s3 (d1.mono (e2.trans e3) (eh2.trans eh3)) hc fun v F4 H4 e4 eh4 s4 d4 => hk d v F4 H4 h3 (e1.trans (e2.trans (e3.trans e4))) (eh1.trans (eh2.trans (eh3.trans eh4))) s4 d4) h2) h1) hG⟩⟩
theorem Zip {r : List V -> Hp -> VK -> Prop} {g : List D -> Option D} {cs : (List D -> R β γ) -> R β γ} (hg : Z8c K r g) (ha : AAL X K E xF xb env es cs) :
    AJ K E xF xb env (tCB r (taC X es)) (fun _ F _ _ v d => Dr K F v d) (fun (k : D -> R β γ) => cs fun ds => R.lft (g ds) k) := fun B F H σ Q k G s w gx hk hG =>
  ha.2 B F H σ _ _ G s w gx (fun ds vs F1 H1 h1 e1 eh1 s1 d1 => by
    cases hc : g ds with
    | none => rw [hc] at h1; exact (gx.no h1).elim
    | some z =>
      rw [hc] at h1
      exact hg B F1 H1 σ env vs ds z Q s1 d1 hc fun v' F' H' e' eh' s' d' => hk z v' F' H' h1 (e1.trans e') (eh1.trans eh') s' d') hG
theorem Zfd {r : List V -> Hp -> VK -> Prop} {g : List D -> Option D} {cs : (List D -> R β γ) -> R β γ} (hg : Z9h K r g) (ha : AAL X K E xF xb env es cs) :
    AJ K E xF xb env (tCB r (taC X es)) (fun B F H σ v d => rN K B F H σ env v d []) (fun (k : D -> R β γ) => cs fun ds => R.lft (g ds) k) := fun B F H σ Q k G s w gx hk hG =>
  ha.2 B F H σ _ _ G s w gx (fun ds vs F1 H1 h1 e1 eh1 s1 d1 => by
    cases hc : g ds with
    | none => rw [hc] at h1; exact (gx.no h1).elim
    | some z =>
      rw [hc] at h1
      exact hg B F1 H1 σ env vs ds z Q s1 d1 hc fun v' F' H' e' eh' s' d' => hk z v' F' H' h1 (e1.trans e') (eh1.trans eh') s' d') hG
section
variable {r : List V -> Hp -> VK -> Prop} {g : List D -> Option D} {cs : (List D -> R β γ) -> R β γ} {x : Str} {id T : String} {p : Pos}
theorem Zh (hc : CallR X (.builtin id) r) (hd : Z8c K r g) (hv : bootBuiltins x = some (.builtin id)) (hm : X.mg x = none) (hg : Gl X x) (ha : AAL X K E xF xb env (e :: es) cs) (hn : x ≠ "__name__" := by decide) (hdb : (x == ("__debug__" : Str)) = false := by decide)
    (he : starEach (e :: es) X.env = (false, eval e X.env) :: starEach es X.env := by rfl) (hpl : (backTo pos (starEach es X.env)).any (·.1) = false := by rfl) : AE X K E xF xb env (.Call (.Name x p) (e :: es) [] pos) (fun (k : D -> R β γ) => cs fun ds => R.lft (g ds) k) :=
  ⟨ha.1, fun B F H σ Q k G s w gx hk hG => ⟨_, pe_callB hc hg hm hv pa_C hn hdb he hpl, Zip hd ha B F H σ Q k G s w gx hk hG⟩⟩
theorem Z38 (hc : CallR X (.type T) r) (hd : Z8c K r g) (hv : bootBuiltins x = some (.type T)) (hm : X.mg x = none) (hg : Gl X x) (ha : AAL X K E xF xb env (e :: es) cs) (hn : x ≠ "__name__" := by decide) (hdb : (x == ("__debug__" : Str)) = false := by decide)
    (he : starEach (e :: es) X.env = (false, eval e X.env) :: starEach es X.env := by rfl) (hpl : (backTo pos (starEach es X.env)).any (·.1) = false := by rfl) : AE X K E xF xb env (.Call (.Name x p) (e :: es) [] pos) (fun (k : D -> R β γ) => cs fun ds => R.lft (g ds) k) :=
  ⟨ha.1, fun B F H σ Q k G s w gx hk hG => ⟨_, pe_callTy hc hg hm hv pa_C hn hdb he hpl, Zip hd ha B F H σ Q k G s w gx hk hG⟩⟩
theorem Z7c (hc : CallR X (.type T) r) (hd : Z9h K r g) (hv : bootBuiltins x = some (.type T)) (hm : X.mg x = none) (hg : Gl X x) (ha : AAL X K E xF xb env (e :: es) cs) (hn : x ≠ "__name__" := by decide) (hdb : (x == ("__debug__" : Str)) = false := by decide)
    (he : starEach (e :: es) X.env = (false, eval e X.env) :: starEach es X.env := by rfl) (hpl : (backTo pos (starEach es X.env)).any (·.1) = false := by rfl) : AN X K E xF xb env [] (.Call (.Name x p) (e :: es) [] pos) (fun (k : D -> R β γ) => cs fun ds => R.lft (g ds) k) :=
  ⟨ha.1, fun B F H σ Q k G s w gx hk hG => ⟨_, pe_callTy hc hg hm hv pa_C hn hdb he hpl, Zfd hd ha B F H σ Q k G s w gx hk hG⟩⟩
end
end
end DM
namespace DM
open PySem PySem.Spec PyProof.Rows L2 DL
inductive Step (S : Type) where
  | nx (s : S) | bk (s : S) | rt (d : D) (s : S)
namespace R
variable {β α γ ω S : Type}
def join (r : S -> R β ω) (f : (S -> R β ω) -> R β ω) : R β ω := f r
def tup2 (d : D) (k : D -> D -> R β γ) : R β γ := match d with
  | .tup [x, y] => k x y
  | .lst [x, y] => k x y
  | _ => .no
def tup3 (d : D) (k : D -> D -> D -> R β γ) : R β γ := match d with
  | .tup [x, y, z] => k x y z
  | .lst [x, y, z] => k x y z
  | _ => .no
def tup5 (d : D) (k : D -> D -> D -> D -> D -> R β γ) : R β γ := match d with
  | .tup [x, y, z, u, v] => k x y z u v
  | .lst [x, y, z, u, v] => k x y z u v
  | _ => .no
def turn (m : R β (Step S)) (nxt : S -> R β (Step S)) : R β (Step S) := match m with
  | .ok (.nx s') => nxt s'
  | .ok (.bk s') => .ok (.nx s')
  | .ok (.rt v s') => .ok (.rt v s')
  | .ex x b => .ex x b
  | .no => .no
def for' : List D -> S -> (D -> S -> R β (Step S)) -> R β (Step S)
  | [], s, _ => .ok (.nx s)
  | d :: ds, s, f => turn (f d s) fun s' => for' ds s' f
def after (m : R β (Step S)) (k : S -> R β ω) (kr : D -> S -> R β ω) : R β ω := match m with
  | .ok (.nx s) => k s
  | .ok (.bk s) => k s
  | .ok (.rt d s) => kr d s
  | .ex x b => .ex x b
  | .no => .no
end R
def tsC (X : Cx) (st : List Stmt) : TS := fun Dn σ H => ∃ t, PSs X st t ∧ t Dn σ H
theorem ps_C {X : Cx} {st : List Stmt} : PSs X st (tsC X st) := ⟨fun pins s σ H Q I ⟨_, h, ht⟩ => h.run pins s σ H Q I ht⟩
def tgC (X : Cx) (tg : Expr) : TG := fun v σ H P => ∃ t, PG X tg t ∧ t v σ H P
theorem pg_C {X : Cx} {tg : Expr} : PG X tg (tgC X tg) := ⟨fun pins s σ H v u Q I r ⟨_, h, ht⟩ => h.run pins s σ H v u Q I r ht⟩
def tgsC (X : Cx) (tg : List Expr) : TGs := fun v σ H P => ∃ t, PGs X tg t ∧ t v σ H P
theorem Zmf {X : Cx} {tg : List Expr} : PGs X tg (tgsC X tg) := ⟨fun pins s σ H v u Q I r ⟨_, h, ht⟩ => h.run pins s σ H v u Q I r ht⟩
def tiC (X : Cx) (tg iter : Expr) : TI := fun σ H Q => ∃ t, PI X tg iter t ∧ t σ H Q
theorem pi_C {X : Cx} {tg iter : Expr} : PI X tg iter (tiC X tg iter) := ⟨fun pins s σ H Q I ⟨_, h, ht⟩ => h.run pins s σ H Q I ht⟩
structure Kt (β ω : Type) where
  fx : β -> Fm
  Sn : Type
  fn : Sn -> Fm
  kn : Sn -> R β ω
  Sb : Type
  fb : Sb -> Fm
  kb : Sb -> R β ω
  Sc : Type
  fc : Sc -> Fm
  kc : Sc -> R β ω
  Sr : Type
  fr : Sr -> Fm
  kr : D -> Sr -> R β ω
  nw : Option (List Str)
def rR (K : PySem.W.Frag) (nw : Option (List Str)) (B : Bs) (F H : Hp) (σ : L2.St) (env : Fm) (v : V) (d : D) : Prop := match nw with
  | none => Dr K F v d
  | some fs => rN K B F H σ env v d fs
structure Gs (K : PySem.W.Frag) (B : Bs) (E : XE) {β ω : Type} (κ : Kt β ω) (F : Hp) (Dn : Ends) (G : R β ω -> Prop) : Prop where
  no : ¬ G .no
  ex : ∀ x b, G (.ex x b) -> ∀ c dd F' H' σ', Ex F F' -> SR K B F' H' σ' (κ.fx b) -> XR K F' x c dd -> E σ' c dd H'
  nx : ∀ s, G (κ.kn s) -> ∀ F' H' σ', Ex F F' -> SR K B F' H' σ' (κ.fn s) -> Dn.nx σ' H'
  bk : ∀ s, G (κ.kb s) -> ∀ F' H' σ', Ex F F' -> SR K B F' H' σ' (κ.fb s) -> Dn.bk σ' H'
  ct : ∀ s, G (κ.kc s) -> ∀ F' H' σ', Ex F F' -> SR K B F' H' σ' (κ.fc s) -> Dn.ct σ' H'
  rt : ∀ d s, G (κ.kr d s) -> ∀ v F' H' σ', Ex F F' -> SR K B F' H' σ' (κ.fr s) -> rR K κ.nw B F' H' σ' (κ.fr s) v d -> Dn.rt v H'
section
variable {X : Cx} {K : PySem.W.Frag} {E : XE} {β ω : Type} {κ : Kt β ω} {env : Fm} {pos : Pos} {rest : List Stmt}
theorem Gs.mono {B : Bs} {F F1 : Hp} {Dn : Ends} {G : R β ω -> Prop} (e : Ex F F1) (h : Gs K B E κ F Dn G) : Gs K B E κ F1 Dn G :=
  ⟨h.no, fun x b hx c dd F' H' σ' e1 => h.ex x b hx c dd F' H' σ' (e.trans e1), fun s hs F' H' σ' e1 => h.nx s hs F' H' σ' (e.trans e1), fun s hs F' H' σ' e1 => h.bk s hs F' H' σ' (e.trans e1), fun s hs F' H' σ' e1 => h.ct s hs F' H' σ' (e.trans e1), fun d s hs v F' H' σ' e1 => h.rt d s hs v F' H' σ' (e.trans e1)⟩
theorem Gs.gx {B : Bs} {F : Hp} {Dn : Ends} {G : R β ω -> Prop} {σ : L2.St} (h : Gs K B E κ F Dn G) (xb : β) : Gx K B E F σ (κ.fx xb) xb G :=
  ⟨h.no, fun x hx c dd F' H' e1 s1 x1 => h.ex x xb hx c dd F' H' σ e1 s1 x1⟩
def AB (X : Cx) (K : PySem.W.Frag) (E : XE) {β ω : Type} (κ : Kt β ω) (env : Fm) (st : List Stmt) (m : R β ω) : Prop :=
  X.K = K ∧ ∀ B F H σ Dn (G : R β ω -> Prop), SR K B F H σ env -> Gs K B E κ F Dn G -> G m -> tsC X st Dn σ H
theorem AB.eq {st : List Stmt} {m m' : R β ω} (h : AB X K E κ env st m) (e : m = m') : AB X K E κ env st m' := e ▸ h
theorem Zr {mE : R β ω} (s : κ.Sn) (hw : Wk env (κ.fn s)) (eE : κ.kn s = mE) (hK : X.K = K := by rfl) : AB X K E κ env [] mE := by
  subst eE
  exact ⟨hK, fun B F H σ Dn G sr gs hG => ⟨_, pss_nil, gs.nx s hG F H σ (Ex.refl F) (sr.wk hw)⟩⟩
theorem Za {mE : R β ω} {e : Expr} {c : (D -> R β ω) -> R β ω} (xb : β) (s : κ.Sr) (he : AE X K E (κ.fx xb) xb env e c) (hx : Wk env (κ.fx xb)) (hw : Wk env (κ.fr s)) (eE : (c fun d => κ.kr d s) = mE) (hn : κ.nw = none := by rfl) : AB X K E κ env [.Return (some e) pos] mE := by
  subst eE
  exact ⟨he.1, fun B F H σ Dn G sr gs hG => ⟨_, pss_one (ps_ret pe_C), he.2 B F H σ _ _ G sr hx (gs.gx xb) (fun d v F1 H1 h1 e1 eh1 s1 d1 => gs.rt d s h1 v F1 H1 σ e1 (s1.wk hw) (by unfold rR; rw [hn]; exact d1)) hG⟩⟩
theorem Znq {mE : R β ω} {e : Expr} {fs : List Str} {c : (D -> R β ω) -> R β ω} (xb : β) (s : κ.Sr) (he : AN X K E (κ.fx xb) xb env fs e c) (hx : Wk env (κ.fx xb)) (hw : Wk env (κ.fr s)) (eE : (c fun d => κ.kr d s) = mE) (hn : κ.nw = some fs := by rfl) : AB X K E κ env [.Return (some e) pos] mE := by
  subst eE
  exact ⟨he.1, fun B F H σ Dn G sr gs hG => ⟨_, pss_one (ps_ret pe_C), he.2 B F H σ _ _ G sr hx (gs.gx xb) (fun d v F1 H1 h1 e1 eh1 s1 d1 => gs.rt d s h1 v F1 H1 σ e1 (s1.wk hw) (by
    unfold rR
    rw [hn]
    obtain ⟨p, S, h2, h3, h4, h5⟩ := d1
    obtain ⟨ft, hf⟩ := s1.own
    refine ⟨p, S, h2, h3, h4, fun ft' hf' a ha z => h5 ft hf a ha ?_⟩
    obtain ⟨i, t, d2, f2, g1, g2⟩ := z
    have g3 := hw.at g1 fun z => nomatch z
    obtain ⟨q, q1, q2, _⟩ := hf.ow i t d2 f2 g3
    obtain ⟨q', r1, r2, _⟩ := hf'.ow i t d2 f2 g1
    rw [q1] at r1
    cases r1
    rw [← Z2w q2 (Ex.refl _) r2] at g2
    exact ⟨i, t, d2, f2, g3, g2⟩)) hG⟩⟩
theorem Zns {e : Expr} {c : (D -> R β ω) -> R β ω} {m : R β ω} (xb : β) (he : AE X K E (κ.fx xb) xb env e c) (hx : Wk env (κ.fx xb)) (hr : AB X K E κ env rest m) (hs : swapsWith e none pos.line X.env = pure false := by rfl) : AB X K E κ env (.Expr e pos :: rest) (c fun _ => m) :=
  ⟨hr.1, fun B F H σ Dn G sr gs hG => ⟨_, pss_cons (ps_expr pe_C hs) ps_C, he.2 B F H σ _ _ G sr hx (gs.gx xb) (fun d v F1 H1 h1 e1 eh1 s1 d1 => hr.2 B F1 H1 σ Dn G s1 (gs.mono e1) h1) hG⟩⟩
theorem Zf {e : Expr} {c : (D -> R β ω) -> R β ω} {m : D -> R β ω} (i : Nat) {x : Str} {p2 : Pos} (xb : β) (he : AE X K E (κ.fx xb) xb env e c) (hx : Wk env (κ.fx xb)) (hr : ∀ d, AB X K E κ (fput env i (.fz d)) rest (m d)) (hN : X.N.Nodup) (hl : Loc X.env.scope x) (hi : X.N[i]? = some x := by rfl)
    (hs : swapsWith e (some (.Name x p2)) pos.line X.env = pure false := by rfl) (hf : X.fn x = true ∨ X.env.scope.names.lookup x = some .local := by first | exact .inl rfl | exact .inr rfl | assumption) : AB X K E κ env (.Assign [.Name x p2] e pos :: rest) (c fun d => m d) :=
  ⟨he.1, fun B F H σ Dn G sr gs hG => ⟨_, pss_cons (ps_set hN hi hl pe_C hs hf) ps_C, he.2 B F H σ _ _ G sr hx (gs.gx xb) (fun d v F1 H1 h1 e1 eh1 s1 d1 => (hr d).2 B F1 H1 _ Dn G (s1.setF d1) (gs.mono e1) h1) hG⟩⟩
theorem Z4h {e : Expr} {c : (D -> R β ω) -> R β ω} {m : D -> R β ω} {fs : List Str} (i : Nat) {x : Str} {p2 : Pos} (xb : β) (he : AN X K E (κ.fx xb) xb env fs e c) (hx : Wk env (κ.fx xb)) (hr : ∀ d, AB X K E κ (fput env i (.ow none d fs)) rest (m d)) (hN : X.N.Nodup) (hl : Loc X.env.scope x) (hi : X.N[i]? = some x := by rfl)
    (hs : swapsWith e (some (.Name x p2)) pos.line X.env = pure false := by rfl) (hf : X.fn x = true ∨ X.env.scope.names.lookup x = some .local := by first | exact .inl rfl | exact .inr rfl | assumption) : AB X K E κ env (.Assign [.Name x p2] e pos :: rest) (c fun d => m d) :=
  ⟨he.1, fun B F H σ Dn G sr gs hG => ⟨_, pss_cons (ps_set hN hi hl pe_C hs hf) ps_C, he.2 B F H σ _ _ G sr hx (gs.gx xb) (fun d v F1 H1 h1 e1 eh1 s1 d1 => (hr d).2 B F1 H1 _ Dn G (s1.setO d1) (gs.mono e1) h1) hG⟩⟩
theorem Z60 (i : Nat) {t : Option Nat} {d : D} {fs : List Str} {st : List Stmt} {m : R β ω} (hi : fget env i = .ow t d fs) (hr : AB X K E κ (fput env i (.fz d)) st m) : AB X K E κ env st m :=
  ⟨hr.1, fun B F H σ Dn G sr gs hG => by
    obtain ⟨v, F1, e1, h1, h2, s1⟩ := sr.frz hi
    exact hr.2 B F1 H σ Dn G s1 (gs.mono e1) hG⟩
def Kt.join (κ : Kt β ω) (S : Type) (f : S -> Fm) (k : S -> R β ω) : Kt β ω := { κ with Sn := S, fn := f, kn := k }
def Kt.stop (κ : Kt β ω) : Kt β ω := { κ with Sn := Empty, fn := fun z => z.elim, kn := fun z => z.elim }
theorem Gs.join {B : Bs} {F : Hp} {Dn : Ends} {G : R β ω -> Prop} {S : Type} {f : S -> Fm} {k : S -> R β ω} (gs : Gs K B E κ F Dn G) (hr : ∀ s, AB X K E κ (f s) rest (k s)) : Gs K B E (κ.join S f k) F { Dn with nx := tsC X rest Dn } G :=
  ⟨gs.no, gs.ex, fun s hs F' H' σ' e1 s1 => (hr s).2 B F' H' σ' Dn G s1 (gs.mono e1) hs, gs.bk, gs.ct, gs.rt⟩
theorem Gs.stop {B : Bs} {F : Hp} {Dn : Ends} {G : R β ω -> Prop} {N : L2.St -> Hp -> Prop} (gs : Gs K B E κ F Dn G) : Gs K B E κ.stop F ({ Dn with nx := N } : Ends) G :=
  ⟨gs.no, gs.ex, fun s => s.elim, gs.bk, gs.ct, gs.rt⟩
theorem Zg7 {c : Expr} {a b : List Stmt} {ct : (Bool -> R β ω) -> R β ω} {S : Type} (f : S -> Fm) {ma mb : (S -> R β ω) -> R β ω} {k : S -> R β ω} (xb : β) (hc : AT X K E (κ.fx xb) xb env c ct) (hx : Wk env (κ.fx xb))
    (ha : ∀ k, AB X K E (κ.join S f k) env a (ma k)) (hb : ∀ k, AB X K E (κ.join S f k) env b (mb k)) (hr : ∀ s, AB X K E κ (f s) rest (k s)) : AB X K E κ env (.If c a b pos :: rest) (R.join k fun k => ct fun x => if x then ma k else mb k) :=
  ⟨hc.1, fun B F H σ Dn G sr gs hG => ⟨_, pss_cons (ps_if pt_C ps_C ps_C) ps_C, hc.2 B F H σ _ _ G sr hx (gs.gx xb) (fun d v F1 H1 h1 e1 eh1 s1 d1 => by
    subst d1
    cases v with
    | true => exact iteT ((ha k).2 B F1 H1 σ _ G s1 ((gs.join hr).mono e1) h1)
    | false => exact iteF ((hb k).2 B F1 H1 σ _ G s1 ((gs.join hr).mono e1) h1)) hG⟩⟩
theorem Z1q {c : Expr} {a : List Stmt} {ct : (Bool -> R β ω) -> R β ω} {ma mb : R β ω} (xb : β) (hc : AT X K E (κ.fx xb) xb env c ct) (hx : Wk env (κ.fx xb)) (ha : AB X K E κ.stop env a ma) (hb : AB X K E κ env rest mb) : AB X K E κ env (.If c a [] pos :: rest) (ct fun x => if x then ma else mb) :=
  ⟨hc.1, fun B F H σ Dn G sr gs hG => ⟨_, pss_cons (ps_if pt_C ps_C pss_nil) ps_C, hc.2 B F H σ _ _ G sr hx (gs.gx xb) (fun d v F1 H1 h1 e1 eh1 s1 d1 => by
    subst d1
    cases v with
    | true => exact iteT (ha.2 B F1 H1 σ _ G s1 (gs.stop.mono e1) h1)
    | false => exact iteF (hb.2 B F1 H1 σ Dn G s1 (gs.mono e1) h1)) hG⟩⟩
theorem Z4s {c : Expr} {a b : List Stmt} {ct : (Bool -> R β ω) -> R β ω} {ma mb : R β ω} (xb : β) (hc : AT X K E (κ.fx xb) xb env c ct) (hx : Wk env (κ.fx xb)) (ha : AB X K E κ env a ma) (hb : AB X K E κ env b mb) : AB X K E κ env [.If c a b pos] (ct fun x => if x then ma else mb) :=
  ⟨hc.1, fun B F H σ Dn G sr gs hG => ⟨_, pss_one (ps_if pt_C ps_C ps_C), hc.2 B F H σ _ _ G sr hx (gs.gx xb) (fun d v F1 H1 h1 e1 eh1 s1 d1 => by
    subst d1
    cases v with
    | true => exact iteT (ha.2 B F1 H1 σ _ G s1 (gs.mono e1) h1)
    | false => exact iteF (hb.2 B F1 H1 σ Dn G s1 (gs.mono e1) h1)) hG⟩⟩
def AG (X : Cx) (K : PySem.W.Frag) {β ω : Type} (own : List Nat) (env : Fm) (tg : Expr) (d : D) (Y : Fm -> R β ω -> Prop) (m : R β ω) : Prop := X.K = K ∧ ∀ B F H σ v P (G : R β ω -> Prop), SR K B F H σ env -> Dr K F v d -> ¬ G R.no -> G m ->
  (∀ env' m' σ', Y env' m' -> SR K B F H σ' env' -> σ'.length = σ.length -> (∀ i : Nat, i ∉ own -> σ'[i]? = σ[i]?) -> G m' -> P σ' H) -> tgC X tg v σ H P
def AGs (X : Cx) (K : PySem.W.Frag) {β ω : Type} (own : List Nat) (env : Fm) (tg : List Expr) (ds : List D) (Y : Fm -> R β ω -> Prop) (m : R β ω) : Prop := X.K = K ∧ ∀ B F H σ vs P (G : R β ω -> Prop), SR K B F H σ env -> DrA K F vs ds -> ¬ G R.no -> G m ->
  (∀ env' m' σ', Y env' m' -> SR K B F H σ' env' -> σ'.length = σ.length -> (∀ i : Nat, i ∉ own -> σ'[i]? = σ[i]?) -> G m' -> P σ' H) -> tgsC X tg vs σ H P
section
variable {own : List Nat} {d : D} {Y : Fm -> R β ω -> Prop} {m : R β ω}
theorem Z6 (i : Nat) {x : Str} (hr : Y (fput env i (.fz d)) m) (hN : X.N.Nodup) (hx : Loc X.env.scope x) (hi : X.N[i]? = some x := by rfl) (ho : i ∈ own := by decide) (hK : X.K = K := by rfl) (hf : X.fn x = true ∨ X.env.scope.names.lookup x = some .local := by first | exact .inl rfl | exact .inr rfl | assumption) :
    AG X K own env (.Name x pos) d Y m :=
  ⟨hK, fun B F H σ v P G s hd hn hG hP => ⟨_, pg_name hN hi hx hf, hP _ m _ hr (s.setF hd) List.length_set (fun j hj => List.getElem?_set_ne (fun (z : i = j) => hj (z ▸ ho))) hG⟩⟩
theorem Z1u (hr : Y env m) (hK : X.K = K := by rfl) : AGs X K own env [] [] Y m :=
  ⟨hK, fun B F H σ vs P G s hd hn hG hP => by
    cases hd
    exact ⟨_, pgs_nil, rfl, hP env m σ hr s rfl (fun _ _ => rfl) hG⟩⟩
theorem Z8 {e : Expr} {es : List Expr} {ds : List D} (h : AG X K own env e d (fun env' m' => AGs X K own env' es ds Y m') m) (hs : (assignEach (e :: es) X.env).map (·.2) = assign e X.env :: (assignEach es X.env).map (·.2) := by rfl) : AGs X K own env (e :: es) (d :: ds) Y m :=
  ⟨h.1, fun B F H σ vs P G s hd hn hG hP => by
    cases hd with
    | cons h1 h2 =>
      refine ⟨_, pgs_cons pg_C Zmf hs, _, _, rfl, h.2 B F H σ _ _ G s h1 hn hG fun env' m' σ' hy s' hl hk hG' => ?_⟩
      exact hy.2 B F H σ' _ P G s' h2 hn hG' fun env2 m2 σ2 hy2 s2 hl2 hk2 hG2 => hP env2 m2 σ2 hy2 s2 (hl2.trans hl) (fun i hi => (hk2 i hi).trans (hk i hi)) hG2⟩
theorem Ze3 {es : List Expr} {k : Nat} {xs : List D} (hc : X.calm = true) (h : AGs X K own env es xs Y m) (hn : (assignEach es X.env).length = xs.length) (hst : (assignEach es X.env).findIdx? (·.1) = none) : AG X K own env (.Tuple es k pos) (.tup xs) Y m :=
  ⟨h.1, fun B F H σ v P G s hd hno hG hP => by
    have hK := h.1
    subst hK
    cases hd with
    | tup h3 h4 => exact ⟨_, pg_tup hc Zmf hn hst, _, _, rfl, s.ex.st h3.sq, h4.length, h.2 B F H σ _ P G s h4 hno hG hP⟩⟩
theorem Ze4 {es : List Expr} {k : Nat} {xs : List D} (hc : X.calm = true) (h : AGs X K own env es xs Y m) (hn : (assignEach es X.env).length = xs.length) (hst : (assignEach es X.env).findIdx? (·.1) = none) : AG X K own env (.Tuple es k pos) (.lst xs) Y m :=
  ⟨h.1, fun B F H σ v P G s hd hno hG hP => by
    have hK := h.1
    subst hK
    cases hd with
    | lst h3 h4 => exact ⟨_, pg_lst hc Zmf hn hst, _, _, rfl, .inl (s.ex.rd h3), h4.length, h.2 B F H σ _ P G s h4 hno hG hP⟩⟩
theorem Znn {tg : Expr} (hK : X.K = K := by rfl) : AG X K own env tg d Y R.no := ⟨hK, fun B F H σ v P G s hd hno hG hP => (hno hG).elim⟩
theorem Z37 {a b : Expr} {k : Nat} {m : D -> D -> R β ω} (hc : X.calm = true) (h : ∀ x y, AGs X K own env [a, b] [x, y] Y (m x y)) (hn : (assignEach [a, b] X.env).length = 2 := by rfl) (hst : (assignEach [a, b] X.env).findIdx? (·.1) = none := by rfl) : AG X K own env (.Tuple [a, b] k pos) d Y (R.tup2 d m) := by
  unfold R.tup2
  split
  · exact Ze3 hc (h _ _) hn hst
  · exact Ze4 hc (h _ _) hn hst
  · exact Znn (h .non .non).1
theorem Znm {a b c : Expr} {k : Nat} {m : D -> D -> D -> R β ω} (hc : X.calm = true) (h : ∀ x y z, AGs X K own env [a, b, c] [x, y, z] Y (m x y z)) (hn : (assignEach [a, b, c] X.env).length = 3 := by rfl) (hst : (assignEach [a, b, c] X.env).findIdx? (·.1) = none := by rfl) : AG X K own env (.Tuple [a, b, c] k pos) d Y (R.tup3 d m) := by
  unfold R.tup3
  split
  · exact Ze3 hc (h _ _ _) hn hst
  · exact Ze4 hc (h _ _ _) hn hst
  · exact Znn (h .non .non .non).1
theorem Zbc {a b c e f : Expr} {k : Nat} {m : D -> D -> D -> D -> D -> R β ω} (hc : X.calm = true) (h : ∀ x y z u v, AGs X K own env [a, b, c, e, f] [x, y, z, u, v] Y (m x y z u v)) (hn : (assignEach [a, b, c, e, f] X.env).length = 5 := by rfl) (hst : (assignEach [a, b, c, e, f] X.env).findIdx? (·.1) = none := by rfl) : AG X K own env (.Tuple [a, b, c, e, f] k pos) d Y (R.tup5 d m) := by
  unfold R.tup5
  split
  · exact Ze3 hc (h _ _ _ _ _) hn hst
  · exact Ze4 hc (h _ _ _ _ _) hn hst
  · exact Znn (h .non .non .non .non .non).1
end
theorem Zcx {tg e : Expr} {own : List Nat} {c : (D -> R β ω) -> R β ω} {m : D -> R β ω} (xb : β) (he : AE X K E (κ.fx xb) xb env e c) (hx : Wk env (κ.fx xb)) (hg : ∀ d, AG X K own env tg d (fun env' m' => AB X K E κ env' rest m') (m d))
    (hs : swapsWithSole [tg] e pos.line X.env = pure false := by rfl) (hw : swappedStores [tg] e X.env = pure none := by rfl) (h1 : (assignEach [tg] X.env).map (·.2) = [assign tg X.env] := by rfl) : AB X K E κ env (.Assign [tg] e pos :: rest) (c fun d => m d) :=
  ⟨he.1, fun B F H σ Dn G sr gs hG => ⟨_, pss_cons (ps_asg pe_C pg_C hs hw h1) ps_C, he.2 B F H σ _ _ G sr hx (gs.gx xb) (fun d v F1 H1 h1 e1 eh1 s1 d1 => (hg d).2 B F1 H1 σ v _ G s1 d1 gs.no h1 fun env' m' σ' hy s' _ _ hG' => hy.2 B F1 H1 σ' Dn G s' (gs.mono e1) hG') hG⟩⟩
theorem Zlk {x y : Str} {a b : Expr} {cs : (List D -> R β ω) -> R β ω} {px py pt pt2 : Pos} {kt k2 : Nat} {m : D -> D -> R β ω} (i j : Nat) (xb : β) (ha : AA X K E (κ.fx xb) xb env [a, b] cs) (hx : Wk env (κ.fx xb)) (hr : ∀ u v, AB X K E κ (fput (fput env i (.fz u)) j (.fz v)) rest (m u v)) (hc : X.calm = true) (hN : X.N.Nodup)
    (hlx : X.env.scope.names.lookup x = some .local := by rfl) (hly : X.env.scope.names.lookup y = some .local := by rfl) (hij : i ≠ j := by decide) (hi : X.N[i]? = some x := by rfl) (hj : X.N[j]? = some y := by rfl)
    (hw : swappedStores [.Tuple [.Name x px, .Name y py] kt pt] (.Tuple [a, b] k2 pt2) X.env = pure (some [x, y]) := by rfl) (hs : swapsWithSole [.Tuple [.Name x px, .Name y py] kt pt] (.Tuple [a, b] k2 pt2) pos.line X.env = pure false := by rfl) :
    AB X K E κ env (.Assign [.Tuple [.Name x px, .Name y py] kt pt] (.Tuple [a, b] k2 pt2) pos :: rest) (cs fun ds => match ds with | [u, v] => m u v | _ => R.no) :=
  ⟨ha.1, fun B F H σ Dn G sr gs hG => ⟨_, pss_cons (ps_par hc hN hi hj hij hlx hly pa_C hw hs) ps_C, ha.2 B F H σ _ _ G sr hx (gs.gx xb) (fun ds vs F1 H1 h1 e1 eh1 s1 d1 => by
    match ds, d1, h1 with
    | [u, v], .cons g1 (.cons g2 .nil), h1 => exact ⟨_, _, rfl, (hr u v).2 B F1 H1 _ Dn G ((s1.setF g1).setF g2) (gs.mono e1) h1⟩
    | [], _, h1 => exact (gs.no h1).elim
    | [_], _, h1 => exact (gs.no h1).elim
    | _ :: _ :: _ :: _, _, h1 => exact (gs.no h1).elim) hG⟩⟩
def rI (K : PySem.W.Frag) (F : Hp) (J : It) (ds : List D) : Prop := ∀ F1 H1, Ex F F1 -> Ex F1 H1 -> (∀ i, i < ds.length -> J.go i H1) ∧ (∀ i, ds.length ≤ i -> J.stop i H1) ∧
  ∀ i x H2 d, ds[i]? = some d -> J.yld i H1 x H2 -> (Dr K F1 x d ∧ H2 = H1) ∨ ∃ p o, H1 p = none ∧ H2 = upd H1 p o ∧ Dr K (upd F1 p o) x d
def AI (X : Cx) (K : PySem.W.Frag) (E : XE) {β γ : Type} (xF : Fm) (xb : β) (env : Fm) (tg iter : Expr) (c : (List D -> R β γ) -> R β γ) : Prop := X.K = K ∧ AJ K E xF xb env (tiC X tg iter) (fun _ F _ _ J ds => rI K F J ds) c
def Kt.loop (κ : Kt β ω) (S : Type) (f : S -> Fm) : Kt β (Step S) where
  fx := κ.fx
  Sn := S
  fn := f
  kn := fun s => .ok (.nx s)
  Sb := S
  fb := f
  kb := fun s => .ok (.bk s)
  Sc := S
  fc := f
  kc := fun s => .ok (.nx s)
  Sr := S
  fr := f
  kr := fun d s => .ok (.rt d s)
  nw := κ.nw
theorem Z3y {mE : R β ω} {tg iter : Expr} {body : List Stmt} {own : List Nat} {S : Type} (f : S -> Fm) (s0 : S) (r : S -> κ.Sr) {ci : (List D -> R β ω) -> R β ω} {mb : D -> S -> R β (Step S)} {k : S -> R β ω} (xb : β) (hi : AI X K E (κ.fx xb) xb env tg iter ci) (hx : Wk env (κ.fx xb)) (h0 : Wk env (f s0)) (hrr : ∀ s, Wk (f s) (κ.fr (r s)))
    (hb : ∀ s d, AG X K own (f s) tg d (fun env' m' => AB X K E (κ.loop S f) env' body m') (mb d s)) (hr : ∀ s, AB X K E κ (f s) rest (k s)) (hnw : κ.nw = none) (hp : PassesOwn (model X.prog X.w) X.A X.env X.xe) (hc : X.calm = true) (eE : (ci fun ds => R.after (R.for' ds s0 mb) k fun d s => κ.kr d (r s)) = mE) (hs : ∀ x, foldedSetIterable iter X.env x = pure x := by intro _; rfl) :
    AB X K E κ env (.For tg iter body [] pos :: rest) mE := by
  subst eE
  refine ⟨hi.1, fun B F H σ Dn G sr gs hG => ⟨_, pss_cons (ps_for hp hc pi_C pg_C ps_C hs) ps_C, hi.2 B F H σ _ _ G sr hx (gs.gx xb) (fun ds J F1 H1 h1 e1 eh1 s1 r1 => ?_) hG⟩⟩
  refine ⟨fun i m σ' H' => ∃ F' s, m = ds.length - i ∧ i ≤ ds.length ∧ Ex F1 F' ∧ SR K B F' H' σ' (f s) ∧ G (R.after (R.for' (ds.drop i) s mb) k fun d s => κ.kr d (r s)),
    ⟨ds.length, F1, s0, by simp, Nat.zero_le _, Ex.refl F1, s1.wk h0, by simpa using h1⟩, ?_⟩
  rintro i m σ' H' ⟨F', s, rfl, hi', e', s', hp'⟩
  by_cases hlt : i < ds.length
  · right
    have hd : ds[i]? = some ds[i] := List.getElem?_eq_getElem hlt
    have hdrop : ds.drop i = ds[i] :: ds.drop (i + 1) := List.drop_eq_getElem_cons hlt
    rw [hdrop] at hp'
    obtain ⟨jgo, _, jy⟩ := r1 F' H' e' s'.ex
    refine ⟨jgo i hlt, fun σ'' H'' => ∃ F'' s'', Ex F1 F'' ∧ SR K B F'' H'' σ'' (f s'') ∧ G (R.after (R.for' (ds.drop (i + 1)) s'' mb) k fun d s => κ.kr d (r s)), ?_, ?_⟩
    · rintro σ'' H'' ⟨F'', s'', a1, a2, a3⟩
      exact ⟨ds.length - (i + 1), by omega, F'', s'', rfl, hlt, a1, a2, a3⟩
    · intro x H2 hy
      have key : ∃ F2, Ex F' F2 ∧ SR K B F2 H2 σ' (f s) ∧ Dr K F2 x ds[i] := by
        rcases jy i x H2 ds[i] hd hy with ⟨hx, rfl⟩ | ⟨p, o, hp0, rfl, hx⟩
        · exact ⟨F', Ex.refl F', s', hx⟩
        · exact ⟨upd F' p o, Ex.new (s'.ex.none hp0), s'.grow hp0, hx⟩
      obtain ⟨F2, e2, s2, hx2⟩ := key
      refine (hb s ds[i]).2 B F2 H2 σ' x _ (fun m => G (R.after (R.turn m fun s' => R.for' (ds.drop (i + 1)) s' mb) k fun d s => κ.kr d (r s))) s2 hx2 gs.no hp' fun env' m' σ2 hy2 s3 _ _ hG3 => ?_
      have e12 := e1.trans (e'.trans e2)
      refine hy2.2 B F2 H2 σ2 _ (fun m => G (R.after (R.turn m fun s' => R.for' (ds.drop (i + 1)) s' mb) k fun d s => κ.kr d (r s))) s3 ⟨gs.no, fun x b hx c dd F3 H3 σ3 e3 s4 x4 => gs.ex x b hx c dd F3 H3 σ3 (e12.trans e3) s4 x4, fun s4 hs4 F3 H3 σ3 e3 s5 => ⟨F3, s4, e'.trans (e2.trans e3), s5, hs4⟩, fun s4 hs4 F3 H3 σ3 e3 s5 => ?_, fun s4 hs4 F3 H3 σ3 e3 s5 => ⟨F3, s4, e'.trans (e2.trans e3), s5, hs4⟩, fun d s4 hs4 v F3 H3 σ3 e3 s5 d5 => ?_⟩ hG3
      · exact (hr s4).2 B F3 H3 σ3 Dn G s5 (gs.mono (e12.trans e3)) hs4
      · refine gs.rt d (r s4) hs4 v F3 H3 σ3 (e12.trans e3) (s5.wk (hrr s4)) ?_
        unfold rR at d5 ⊢
        rw [show (κ.loop S f).nw = none from hnw] at d5
        rw [hnw]
        exact d5
  · left
    have hie : i = ds.length := by omega
    subst hie
    rw [List.drop_length] at hp'
    obtain ⟨_, jstop, _⟩ := r1 F' H' e' s'.ex
    exact ⟨jstop _ (Nat.le_refl _), (hr s).2 B F' H' σ' Dn G s' (gs.mono (e1.trans e')) hp'⟩
end
end DM
namespace DM
open PySem PySem.Spec PyProof.Rows L2 DL
def chars (z : Str) : List D := z.cps.toList.map fun c => .str ⟨#[c]⟩
def rngD (lo : Int) (n : Nat) : List D := (List.range n).map fun i => .int (lo + (i : Nat))
def Z6q (ds : List D) : List D := (List.range ds.length).zipWith (fun i d => .tup [.int (i : Nat), d]) ds
namespace R
variable {β γ : Type}
def items (d : D) (k : List D -> R β γ) : R β γ := match d with
  | .tup ds => k ds
  | .lst ds => k ds
  | .str z => k (chars z)
  | _ => .no
def rng1 (d : D) (k : List D -> R β γ) : R β γ := match d with
  | .int j => if -(2 ^ 62) ≤ j ∧ j < 2 ^ 62 then k (rngD 0 j.toNat) else .no
  | _ => .no
def map (f : D -> R Unit D) : List D -> R Unit (List D)
  | [] => .ok []
  | d :: ds => match f d with
    | .ok y => match map f ds with
      | .ok ys => .ok (y :: ys)
      | _ => .no
    | _ => .no
def fmapS {S : Type} (f : D -> S -> R Unit (Option D × S)) : List D -> S -> R Unit (List D × S)
  | [], s => .ok ([], s)
  | d :: ds, s => match f d s with
    | .ok (y, s1) => match fmapS f ds s1 with
      | .ok (ys, s2) => .ok (match y with
        | some y => y :: ys
        | none => ys, s2)
      | _ => .no
    | _ => .no
end R
section
variable {X : Cx} {K : PySem.W.Frag} {E : XE} {β γ : Type} {xF : Fm} {xb : β} {env : Fm} {tg e a b : Expr} {pos p : Pos} {c1 c2 : (D -> R β γ) -> R β γ}
theorem Zow {F : Hp} {q : Addr} {xs : List V} {ds : List D} (h1 : Rd F q (.lst xs)) (h2 : DrA K F xs ds) : rI K F (Itl K q) ds := by
  intro F2 H2 e2 e3
  have hqq : SqL K _ _ _ := .inl ((e2.trans e3).rd h1)
  refine ⟨fun i hi => ?_, fun i hi => ⟨_, hqq, by rw [h2.length]; exact hi⟩, fun i x H2 d hd hy => Or.inl ?_⟩
  · obtain ⟨v, e, _⟩ := h2.get (List.getElem?_eq_getElem hi)
    exact ⟨_, v, hqq, e⟩
  · obtain ⟨v, e, hv⟩ := h2.get hd
    have ex := hy.2 _ hqq
    rw [e] at ex
    cases ex
    exact ⟨hv.mono e2, hy.1⟩
def IterR (X : Cx) (tg : Expr) (r : V -> Hp -> (It -> Hp -> Prop) -> Prop) : Prop := ∀ (pins : List (Addr × Obj)) (s : Shared) (σ : L2.St) (H : Hp) (v : V) (u : Value) (R : It -> Hp -> Prop), Inv X pins σ H s -> RelV v u -> r v H R -> wpAny (model X.prog X.w) X.A (pyIter u) (PIE X pins σ tg R) X.xe s
theorem Zrc {te : TE} {r : V -> Hp -> (It -> Hp -> Prop) -> Prop} (he : PE X e te) (hr : IterR X tg r) : PI X tg e (fun σ H R => te σ H fun v H1 => r v H1 R) :=
  ⟨fun pins s σ H R I h => thn (he.run pins s σ H _ I h) fun v s1 ⟨x, H1, I1, r1, q1⟩ => hr pins s1 σ H1 x v R I1 r1 q1⟩
theorem itR_list : IterR X tg (fun x H1 R => ∃ a, x = .ref a ∧ (∃ xs, SqL X.K H1 a xs) ∧ R (Itl X.K a) H1) := by
  intro pins s1 σ H1 v u R I1 r1 q1
  obtain ⟨a, e, ⟨xs, hq⟩, q⟩ := q1
  subst e
  cases r1
  obtain ⟨its, rv, p, hz⟩ := I1.list hq
  refine wpAny_pyIter_list p.isList ?_
  refine ⟨s1.heap.objs.size, [s1.heap.objs.size], _, _, H1, rfl, I1.kept (t' := s1.toks) fun b o e => Heap.get?_push_of_some _ e, turn_list a _, ⟨_, Heap.get?_push_size _ rfl, rfl, rfl⟩, fun b hb => ?_, q⟩
  have e : b = s1.heap.objs.size := by simpa using hb
  subst e
  exact I1.fpOk (Nat.le_refl _) (I1.hok.fresh (Nat.le_refl _))
theorem itR_tup : IterR X tg (fun x H1 R => ∃ a, x = .ref a ∧ (∃ xs, SqT X.K H1 a xs) ∧ R (Itt X.K a) H1) := by
  intro pins s1 σ H1 v u R I1 r1 q1
  obtain ⟨a, e, ⟨xs, hq⟩, q⟩ := q1
  subst e
  cases r1
  obtain ⟨its, rv, p, hz⟩ := I1.tuple hq
  refine wpAny_pyIter_tuple (show s1.heap.IsTuple a its.toArray from p) ?_
  refine ⟨s1.heap.objs.size, [s1.heap.objs.size], _, _, H1, rfl, I1.kept (t' := s1.toks) fun b o e => Heap.get?_push_of_some _ e, turn_tuple a _, ⟨_, Heap.get?_push_size _ rfl, rfl, rfl⟩, fun b hb => ?_, q⟩
  have e : b = s1.heap.objs.size := by simpa using hb
  subst e
  exact I1.fpOk (Nat.le_refl _) (I1.hok.fresh (Nat.le_refl _))
theorem Zmz : IterR X tg (fun v H1 R => ∃ x, v = .str x ∧ R (Its x) H1) := by
  intro pins s1 σ H1 v u R I1 r1 q1
  obtain ⟨x, ex, q⟩ := q1
  subst ex
  obtain ⟨t, rfl⟩ := r1
  cases ha : x.cps.all (· < 128)
  · exact wpAny_pyIter_wide ha (pi_one (tk := s1.toks) I1 _ (turn_str _ x t "str_iterator" (.inr rfl)) ⟨_, Heap.get?_push_size _ rfl, rfl, rfl⟩ q)
  · exact wpAny_pyIter_ascii ha (pi_one (tk := s1.toks) I1 _ (turn_str _ x t "str_ascii_iterator" (.inl rfl)) ⟨_, Heap.get?_push_size _ rfl, rfl, rfl⟩ q)
theorem IterR.or {r r' : V -> Hp -> (It -> Hp -> Prop) -> Prop} (h : IterR X tg r) (h' : IterR X tg r') : IterR X tg (fun v H R => r v H R ∨ r' v H R) := fun pins s σ H v u R I rv q => q.elim (h pins s σ H v u R I rv) (h' pins s σ H v u R I rv)
theorem Zot {F : Hp} {q : Addr} {xs : List V} {ds : List D} (h2 : SqT K F q xs) (h3 : DrA K F xs ds) : rI K F (Itt K q) ds := by
  intro F2 H2 e2 e3
  have hqq := (e2.trans e3).st h2
  refine ⟨fun i hi => ?_, fun i hi => ⟨_, hqq, by rw [h3.length]; exact hi⟩, fun i x H2 d hd hy => Or.inl ?_⟩
  · obtain ⟨v, e, _⟩ := h3.get (List.getElem?_eq_getElem hi)
    exact ⟨_, v, hqq, e⟩
  · obtain ⟨v, e, hv⟩ := h3.get hd
    have ex := hy.2 _ hqq
    rw [e] at ex
    cases ex
    exact ⟨hv.mono e2, hy.1⟩
theorem Zou {F : Hp} (z : Str) : rI K F (Its z) (chars z) := by
  intro F2 H2 e2 e3
  have hl : (chars z).length = z.cps.size := by unfold chars; rw [List.length_map, Array.length_toList]
  refine ⟨fun i hi => ?_, fun i hi => ?_, fun i x H2 d hd hy => Or.inl ?_⟩
  · rw [hl] at hi; exact hi
  · rw [hl] at hi; exact hi
  · obtain ⟨e4, c, hc, rfl⟩ := hy
    refine ⟨?_, e4⟩
    unfold chars at hd
    rw [List.getElem?_map, Array.getElem?_toList, hc] at hd
    cases hd
    exact .str _
theorem Zl (h : AE X K E xF xb env e c1) : AI X K E xF xb env tg e (fun (k : List D -> R β γ) => c1 fun d => R.items d k) := by
  have hK := h.1
  subst hK
  refine ⟨rfl, fun B F H σ Q k G s w gx hk hG => ⟨_, Zrc pe_C (itR_list.or (itR_tup.or Zmz)), ?_⟩⟩
  refine h.2 B F H σ _ _ G s w gx (fun d v F1 H1 h1 e1 eh1 s1 d1 => ?_) hG
  cases d <;> first | exact (gx.no h1).elim | skip
  · cases d1
    exact .inr (.inr ⟨_, rfl, hk _ _ F1 H1 h1 e1 eh1 s1 (Zou _)⟩)
  · cases d1 with
    | lst h2 h3 => exact .inl ⟨_, rfl, ⟨_, .inl (s1.ex.rd h2)⟩, hk _ _ F1 H1 h1 e1 eh1 s1 (Zow h2 h3)⟩
  · cases d1 with
    | tup h2 h3 => exact .inr (.inl ⟨_, rfl, ⟨_, s1.ex.st h2.sq⟩, hk _ _ F1 H1 h1 e1 eh1 s1 (Zot h2.sq h3)⟩)
theorem Zov {F : Hp} (lo : Int) (n : Nat) : rI K F (Itr lo n) (rngD lo n) := by
  intro F2 H2 e2 e3
  have hl : (rngD lo n).length = n := by unfold rngD; rw [List.length_map, List.length_range]
  refine ⟨fun i hi => ?_, fun i hi => ?_, fun i x H2 d hd hy => Or.inl ?_⟩
  · rw [hl] at hi; exact hi
  · rw [hl] at hi; exact hi
  · obtain ⟨e4, rfl⟩ := hy
    refine ⟨?_, e4⟩
    unfold rngD at hd
    rw [List.getElem?_map] at hd
    cases q : (List.range n)[i]? with
    | none => rw [q] at hd; cases hd
    | some k =>
      rw [q] at hd
      cases hd
      obtain ⟨h1, h2⟩ := List.getElem?_eq_some_iff.mp q
      rw [List.getElem_range] at h2
      subst h2
      exact .int _
theorem Ziq (hm : X.mg "range" = none) (hg : Gl X "range") (ha : AL X K E xF xb env a c1) (hs : starEach [a] X.env = [(false, eval a X.env)] := by rfl) : AI X K E xF xb env tg (.Call (.Name "range" p) [a] [] pos) (fun (k : List D -> R β γ) => c1 fun d => R.rng1 d k) :=
  ⟨ha.1, fun B F H σ Q k G s w gx hk hG => ⟨_, pi_range1 hg hm (pa_cons pe_C pa_nil hs) hs, ha.2 B F H σ _ _ G s w gx (fun d v F1 H1 h1 e1 eh1 s1 d1 => by
    cases d <;> first | exact (gx.no h1).elim | skip
    rename_i j
    have h1 : G (if -(2 ^ 62) ≤ j ∧ j < 2 ^ 62 then k (rngD 0 j.toNat) else .no) := h1
    split at h1
    · rename_i hj
      exact ⟨j, by rw [d1.int], hj.1, hj.2, hk _ _ F1 H1 h1 e1 eh1 s1 (Zov 0 j.toNat)⟩
    · exact (gx.no h1).elim) hG⟩⟩
theorem Zcs {ds : List D} {i : Nat} {d : D} (h : (Z6q ds)[i]? = some d) : ∃ e, ds[i]? = some e ∧ d = .tup [.int (i : Nat), e] := by
  unfold Z6q at h
  rw [List.getElem?_zipWith] at h
  cases q1 : (List.range ds.length)[i]? with
  | none => rw [q1] at h; cases h
  | some k =>
    cases q2 : ds[i]? with
    | none => rw [q1, q2] at h; cases h
    | some e =>
      rw [q1, q2] at h
      cases h
      obtain ⟨_, h2⟩ := List.getElem?_eq_some_iff.mp q1
      rw [List.getElem_range] at h2
      subst h2
      exact ⟨e, rfl, rfl⟩
theorem Z4r (ds : List D) : (Z6q ds).length = ds.length := by
  unfold Z6q
  rw [List.length_zipWith, List.length_range, Nat.min_self]
def ItE (K : PySem.W.Frag) (a : Addr) : It where
  go := fun i H => ∃ (xs : List V) (x : V), SqL K H a xs ∧ xs[i]? = some x
  yld := fun i H v H' => ∃ T o x, v = .ref T ∧ H T = none ∧ o.dict = none ∧ H' = upd H T (.frz o (.tup [.int (i : Nat), x])) ∧ ∀ xs, SqL K H a xs -> xs[i]? = some x
  stop := fun i H => ∃ xs : List V, SqL K H a xs ∧ xs.length ≤ i
theorem Zfh {P : Program} {w : World} {K : PySem.W.Frag} {elts : List Expr} {kk : Nat} {tpos : Pos} (a e it : Addr) :
    Turn P w K (.Tuple elts kk tpos) (ItE K a) [e, it] e (fun i h => (∃ old, IsEnum h e it ((i : Nat) : Int) old) ∧ h.IsListIter it a i ∧ e ≠ it) := by
  have T0 := turn_enum (P := P) (w := w) (K := K) (elts := elts) (kk := kk) (tpos := tpos) a e it
  refine ⟨T0.mem, T0.obj, T0.keep, ?_, fun X hP hw hK hc i pins s σ H E I hf st hg => T0.done X hP hw hK hc i pins s σ H E I hf st hg, T0.self⟩
  intro X hP hw hK hc i pins s σ H E I hf st hg
  subst hP hw hK
  obtain ⟨⟨old, he⟩, hit, hne⟩ := st
  obtain ⟨xs, x, hq, hx⟩ := hg
  obtain ⟨its, rv, pl, hz⟩ := I.list hq
  obtain ⟨u, hu, ru⟩ := rv.get hx
  have big : ∀ b ∈ [e, it], b < s.heap.objs.size := fun b hb => by
    rcases List.mem_cons.mp hb with z | z
    · rw [z]; exact Heap.lt_size he
    · obtain ⟨_, q, _⟩ := hit
      rw [List.mem_singleton.mp z]; exact Heap.lt_size q
  have hfr : H s.heap.objs.size = none := I.hok.fresh (Nat.le_refl _)
  refine wpAny_pyNext_enum_item he hit pl.isList (x := u) (by simpa using hu) hne fun h1 ho hit' hT hsz hk => ⟨_, rfl, wpAny_letOwnedTupleGo_enum (s := { s with heap := h1, toks := s.toks + 1 }) ho fun h2 he' sb => ?_⟩
  have hT2 := (sb.2 _ (Nat.ne_of_gt (big e List.mem_cons_self))).trans hT
  refine ⟨.ref s.heap.objs.size, upd H s.heap.objs.size (.frz _ (.tup [.int (i : Nat), x])), I.turnedNew (ch := [e, it]) (fun b ob hb q => (sb.2 b (fun z => hb (by simp [z]))).trans (hk b ob (fun z => hb (by simp [z])) (fun z => hb (by simp [z])) q)) hf (Nat.le_refl _)
    (show _ = _ ∧ _ from ⟨hT2, (by decide : 2 ≤ sizeLine), [.int i s.toks, u], .cons ⟨_, rfl⟩ (.cons ru .nil), _, hT2, rfl, _, rfl⟩), rfl, ⟨_, _, x, rfl, hfr, rfl, rfl, fun ys hy => by rw [I.list_inj hy hq]; exact hx⟩, ⟨⟨u, by push_cast; exact he'⟩, hit'.at fun o q => (sb.2 it (Ne.symm hne)).trans q, hne⟩, fun b hb => ?_⟩
  rw [upd_ne (Nat.ne_of_lt (big b hb))]
  exact (hf b hb).1
theorem Zm8 {F : Hp} {q : Addr} {xs : List V} {ds : List D} (h1 : Rd F q (.lst xs)) (h2 : DrA K F xs ds) : rI K F (ItE K q) (Z6q ds) := by
  intro F2 H2 e2 e3
  have hqq : SqL K _ _ _ := .inl ((e2.trans e3).rd h1)
  refine ⟨fun i hi => ?_, fun i hi => ⟨_, hqq, by rw [h2.length]; rw [Z4r] at hi; exact hi⟩, fun i x H3 d hd hy => Or.inr ?_⟩
  · rw [Z4r] at hi
    obtain ⟨v, e, _⟩ := h2.get (List.getElem?_eq_getElem hi)
    exact ⟨_, v, hqq, e⟩
  · obtain ⟨T, o, x', rfl, hT, ho, rfl, hx⟩ := hy
    obtain ⟨e, he, rfl⟩ := Zcs hd
    obtain ⟨v, ev, hv⟩ := h2.get he
    have ex := hx _ hqq
    rw [ev] at ex
    cases ex
    have hF : F2 T = none := e3.none hT
    refine ⟨T, _, hT, rfl, .tup (Or.inl ⟨o, upd_same, ho⟩) (.cons (.int _) (.cons ((hv.mono e2).mono (Ex.new hF)) .nil))⟩
end
end DM
namespace DM
open PySem PySem.Spec PyProof.Rows L2 DL
def ttsC (X : Cx) (ifs : List Expr) : TT := fun σ H Q => ∃ t, PTs X ifs t ∧ t σ H Q
theorem Zoy {X : Cx} {ifs : List Expr} : PTs X ifs (ttsC X ifs) := ⟨fun pins s σ H Q I ⟨_, h, ht⟩ => h.run pins s σ H Q I ht⟩
abbrev BI := Shared × Hp × Addr × List (Str × Addr) × List Addr
abbrev Xb (X : Cx) (scope : Scope) (i : BI) : Cx := X.blk i.1 i.2.1 scope (compEnvC scope i.2.2.2.1 i.2.2.1 X.env) i.2.2.2.2
def AEl (Xs : BI -> Cx) (K : PySem.W.Frag) {S : Type} (f : S -> Fm) (pu : Bool) (env : Fm) (ifs : List Expr) (elt : Expr) (m : R Unit (Option D × S)) : Prop := ∀ B F H σ (P0 : Hp -> Prop) (P1 : VK) (G : R Unit (Option D × S) -> Prop), SR K B F H σ env -> ¬ G .no -> (∀ x b, ¬ G (.ex x b)) ->
  (∀ s F' H', G (.ok (none, s)) -> Ex F F' -> (pu = true -> Ex H H') -> SR K B F' H' σ (f s) -> P0 H') -> (∀ y s v F' H', G (.ok (some y, s)) -> Ex F F' -> (pu = true -> Ex H H') -> SR K B F' H' σ (f s) -> Dr K F' v y -> P1 v H') -> G m ->
  ∀ i, ttsC (Xs i) ifs σ H fun b H1 => if b = true then ∀ j, teC (Xs j) elt σ H1 P1 else P0 H1
abbrev E0x : XE := fun _ _ _ _ => False
section
variable {Xs : BI -> Cx} {K : PySem.W.Frag} {S : Type} {f : S -> Fm} {env : Fm} {elt t : Expr}
theorem Zbd {mE : R Unit (Option D × S)} {c : (D -> R Unit (Option D × S)) -> R Unit (Option D × S)} (s0 : S) (h : ∀ i, AE (Xs i) K E0x env () env elt c) (hw : Wk env (f s0)) (eE : (c fun y => .ok (some y, s0)) = mE) : AEl Xs K f true env [] elt mE := by
  subst eE
  exact fun B F H σ P0 P1 G s hno hex h0 h1 hG i => ⟨_, pts_nil, by
    show if true = true then ∀ j, teC (Xs j) elt σ H P1 else P0 H
    rw [if_pos rfl]
    exact fun j => (h j).2 B F H σ P1 _ G s (Wk.refl env) ⟨hno, fun x z => (hex x _ z).elim⟩ (fun d v F' H' g e eh s' d' => h1 d s0 v F' H' g e (fun _ => eh) (s'.wk hw) d') hG⟩
theorem Z6h {mE : R Unit (Option D × S)} {ct : (Bool -> R Unit (Option D × S)) -> R Unit (Option D × S)} {c : (D -> R Unit (Option D × S)) -> R Unit (Option D × S)} (s0 : S) (ht : ∀ i, AT (Xs i) K E0x env () env t ct) (h : ∀ i, AE (Xs i) K E0x env () env elt c) (hw : Wk env (f s0)) (eE : (ct fun b => if b then c fun y => .ok (some y, s0) else .ok (none, s0)) = mE) : AEl Xs K f true env [t] elt mE := by
  subst eE
  exact fun B F H σ P0 P1 G s hno hex h0 h1 hG i => ⟨_, pts_one pt_C, (ht i).2 B F H σ _ _ G s (Wk.refl env) ⟨hno, fun x z => (hex x _ z).elim⟩ (fun b v F1 H1 g1 e1 eh1 s1 d1 => by
    subst d1
    cases v with
    | true =>
      rw [if_pos rfl]
      exact fun j => (h j).2 B F1 H1 σ P1 _ G s1 (Wk.refl env) ⟨hno, fun x z => (hex x _ z).elim⟩ (fun d v F' H' g e eh s' d' => h1 d s0 v F' H' g (e1.trans e) (fun _ => eh1.trans eh) (s'.wk hw) d') g1
    | false =>
      rw [if_neg (by decide)]
      exact h0 s0 F1 H1 g1 e1 (fun _ => eh1) (s1.wk hw)) hG⟩
end
theorem Zd1 {σ : L2.St} {i : Nat} : ∀ {vs : List Nat}, i ∈ vs -> (wipe σ vs)[i]? = if i < σ.length then some none else none
  | v :: vs, hi => by
    unfold wipe
    by_cases e : v = i
    · subst e
      by_cases hl : v < σ.length
      · rw [if_pos hl, List.getElem?_set_self (by rw [wipe_length]; exact hl)]
      · rw [if_neg hl, List.getElem?_eq_none (by rw [List.length_set, wipe_length]; omega)]
    · rw [List.getElem?_set_ne e]
      exact Zd1 (by rcases List.mem_cons.mp hi with z | z; exact absurd z.symm e; exact z)
theorem Ziz {σ σ2 : L2.St} {vs : List Nat} (hl : σ2.length = σ.length) (h : ∀ i : Nat, i ∉ vs -> σ2[i]? = σ[i]?) : wipe σ2 vs = wipe σ vs := by
  apply List.ext_getElem?
  intro i
  by_cases hi : i ∈ vs
  · rw [Zd1 hi, Zd1 hi, hl]
  · rw [wipe_out hi, wipe_out hi]
    exact h i hi
theorem Z3e {env : Fm} : ∀ j ∈ ([] : List Nat), fget env j = .un := fun j h => nomatch h
theorem Z1d {env : Fm} {i : Nat} {is : List Nat} (h : fget env i = .un) (t : ∀ j ∈ is, fget env j = .un) : ∀ j ∈ i :: is, fget env j = .un := fun j hj => by
  rcases List.mem_cons.mp hj with z | z
  · rw [z]; exact h
  · exact t j z
theorem tk0 {X : Cx} : ∀ σ, PassesAt (L2.CX X.prog X.w) X σ (E0x σ) := fun σ => passAt takes0 σ
def Nob (K : PySem.W.Frag) (F H : Hp) (σ : L2.St) (env : Fm) (a : Addr) : Prop := ∀ i t d fs p S, fget env i = .ow t d fs -> σ[i]? = some (some (.ref p)) -> Own K F H p d fs S -> a ∉ S
section
variable {K : PySem.W.Frag} {B : Bs} {F H : Hp} {σ : L2.St} {env : Fm} {a : Addr}
theorem Nob.of (s : SR K B F H σ env) (h : ∀ ft, Hs K B F H σ env ft -> ¬ owned env ft a) : Nob K F H σ env a := fun i t d fs p S e1 e2 o ha => by
  obtain ⟨ft, hf⟩ := s.own
  obtain ⟨q, h1, h2, _⟩ := hf.ow i t d fs e1
  rw [e2] at h1
  cases h1
  rw [← Z2w h2 (Ex.refl _) o] at ha
  exact h ft hf ⟨i, t, d, fs, e1, ha⟩
theorem Nob.to (h : Nob K F H σ env a) : ∀ ft, Hs K B F H σ env ft -> ¬ owned env ft a := fun ft hf ⟨i, t, d, fs, e1, ha⟩ => by
  obtain ⟨q, h1, h2, _⟩ := hf.ow i t d fs e1
  exact h i t d fs q (ft i) e1 h1 h2 ha
theorem Nob.upd {o : HO} (s : SR K B F H σ env) (h : Nob K F H σ env a) : Nob K F (upd H a o) σ env a := fun i t d fs p S e1 e2 ow ha => by
  obtain ⟨ft, hf⟩ := s.own
  obtain ⟨q, h1, h2, _⟩ := hf.ow i t d fs e1
  rw [e2] at h1
  cases h1
  have hn := h i t d fs p (ft i) e1 e2 h2
  have h3 : Own K F (L2.upd H a o) p d fs (ft i) := h2.congr (Ex.refl F) fun b hb => upd_ne fun z => hn (z ▸ hb)
  rw [← Z2w h3 (Ex.refl _) ow] at ha
  exact hn ha
theorem Nob.sig {σ' : L2.St} (h : Nob K F H σ env a) (hu : ∀ (i : Nat), fget env i ≠ .un -> σ'[i]? = σ[i]?) : Nob K F H σ' env a := fun i t d fs p S e1 e2 => h i t d fs p S e1 (by rw [← hu i (by rw [e1]; exact fun z => nomatch z)]; exact e2)
end
def optL (y : Option D) (ys : List D) : List D := match y with
  | some y => y :: ys
  | none => ys
theorem Zg0 {S : Type} {f : D -> S -> R Unit (Option D × S)} {d : D} {ds ys : List D} {s sE : S} (h : R.fmapS f (d :: ds) s = .ok (ys, sE)) : ∃ y s1 ys1, f d s = .ok (y, s1) ∧ R.fmapS f ds s1 = .ok (ys1, sE) ∧ ys = optL y ys1 := by
  unfold R.fmapS at h
  cases e : f d s with
  | no => rw [e] at h; cases h
  | ex x b => rw [e] at h; cases h
  | ok p =>
    obtain ⟨y, s1⟩ := p
    rw [e] at h
    simp only [] at h
    cases e2 : R.fmapS f ds s1 with
    | no => rw [e2] at h; cases h
    | ex x b => rw [e2] at h; cases h
    | ok p =>
      obtain ⟨ys1, s2⟩ := p
      rw [e2] at h
      cases h
      exact ⟨y, s1, ys1, rfl, e2, rfl⟩
section
variable {X : Cx} {K : PySem.W.Frag} {S : Type}
abbrev tgB (X : Cx) (scope : Scope) (tg : Expr) : TG := fun v σ H P => ∀ i, tgC (Xb X scope i) tg v σ H P
abbrev ttB (X : Cx) (scope : Scope) (ifs : List Expr) : TT := fun σ H Q => ∀ i, ttsC (Xb X scope i) ifs σ H Q
abbrev teB (X : Cx) (scope : Scope) (elt : Expr) : TE := fun σ H Q => ∀ i, teC (Xb X scope i) elt σ H Q
theorem Zph {elt tg : Expr} {ifs : List Expr} {scope : Scope} {own : List Nat} {f : S -> Fm} {pu : Bool} {s0 : S} {mb : D -> S -> R Unit (Option D × S)} {B : Bs} {F1 H1 : Hp} {σ : L2.St} {ds : List D} {J : It} {Q : VK} {ys : List D} {sE : S}
    (hb : ∀ (i : BI) (z : S) (d : D), AG (Xb X scope i) K own (f z) tg d (fun env' m' => AEl (Xb X scope) K f pu env' ifs elt m') (mb d z))
    (hu : ∀ z, ∀ j ∈ own, fget (f z) j = .un) (s1 : SR K B F1 H1 σ (f s0)) (r1 : rI K F1 J ds) (hm : R.fmapS mb ds s0 = .ok (ys, sE)) (hz : ds.length ≤ sizeLine)
    (hk : ∀ v F' H', Ex F1 F' -> (pu = true -> Ex H1 H') -> SR K B F' H' σ (f sE) -> rN K B F' H' σ (f sE) v (.lst ys) [] -> Q v H') :
    ∀ Dn, H1 Dn = none -> ∃ W : Nat -> Nat -> Hp -> Prop, (∃ m, W 0 m (upd H1 Dn (.lst []))) ∧ ∀ i m H, W i m H ->
      (J.stop i H ∧ Q (.ref Dn) H) ∨ (J.go i H ∧ ∃ Nx : Hp -> Prop, (∀ H', Nx H' -> ∃ m', m' < m ∧ W (i + 1) m' H') ∧ ∀ x H', J.yld i H x H' -> tgB X scope tg x (wipe σ own) H' fun σ2 H2 => wipe σ2 own = wipe σ own ∧
        ttB X scope ifs σ2 H2 fun b H3 => if b = true then teB X scope elt σ2 H3 fun y H4 => ∃ acc, H4 Dn = some (.lst acc) ∧ acc.length < sizeLine ∧ Nx (upd H4 Dn (.lst (acc ++ [y]))) else Nx H3) := by
  intro Dn hD
  have hbD := s1.new_b hD
  have hnu : ∀ z (i : Nat), fget (f z) i ≠ .un -> i ∉ own := fun z i h hi => h (hu z i hi)
  have toW : ∀ {F' H' : Hp} {σ2 : L2.St} {z : S}, SR K B F' H' σ2 (f z) -> SR K B F' H' (wipe σ2 own) (f z) := fun {F' H' σ2 z} s => s.unσ (wipe_length σ2 own) fun i hi => wipe_out (hnu z i hi)
  have ofW : ∀ {F' H' : Hp} {z : S}, SR K B F' H' (wipe σ own) (f z) -> SR K B F' H' σ (f z) := fun {F' H' z} s => s.unσ (wipe_length σ own).symm fun i hi => (wipe_out (hnu z i hi)).symm
  have hFD : F1 Dn = none := s1.ex.none hD
  have n0 : Nob K F1 H1 (wipe σ own) (f s0) Dn := fun i t d fs p S e1 e2 o ha => by
    obtain ⟨u, hu⟩ := o.some Dn ha
    rw [hD] at hu; cases hu
  refine ⟨fun i m H' => ∃ F' z accV acc ys', m = ds.length - i ∧ i ≤ ds.length ∧ Ex F1 F' ∧ (pu = true -> Ex H1 H') ∧ SR K B F' H' (wipe σ own) (f z) ∧ H' Dn = some (.lst accV) ∧ DrA K F' accV acc ∧ acc.length ≤ i ∧ F' Dn = none ∧ Nob K F' H' (wipe σ own) (f z) Dn ∧ R.fmapS mb (ds.drop i) z = .ok (ys', sE) ∧ acc ++ ys' = ys,
    ⟨ds.length, F1, s0, [], [], ys, by simp, Nat.zero_le _, Ex.refl F1, fun _ => Ex.new hD, (toW s1).growH hD, upd_same, .nil, Nat.le_refl _, hFD, n0.upd (toW s1), by simpa using hm, rfl⟩, ?_⟩
  rintro i m H' ⟨F', z, accV, acc, ys', rfl, hi', e', eh', s', hDn, hacc, hal, hFn, hnb, hp, hy⟩
  by_cases hlt : i < ds.length
  · right
    have hd : ds[i]? = some ds[i] := List.getElem?_eq_getElem hlt
    have hdrop : ds.drop i = ds[i] :: ds.drop (i + 1) := List.drop_eq_getElem_cons hlt
    rw [hdrop] at hp
    obtain ⟨y, z1, ys1, hm1, hm2, rfl⟩ := Zg0 hp
    obtain ⟨jgo, _, jy⟩ := r1 F' H' e' s'.ex
    refine ⟨jgo i hlt, fun H'' => ∃ F'' z'' accV' acc' ys'', Ex F1 F'' ∧ (pu = true -> Ex H1 H'') ∧ SR K B F'' H'' (wipe σ own) (f z'') ∧ H'' Dn = some (.lst accV') ∧ DrA K F'' accV' acc' ∧ acc'.length ≤ i + 1 ∧ F'' Dn = none ∧ Nob K F'' H'' (wipe σ own) (f z'') Dn ∧ R.fmapS mb (ds.drop (i + 1)) z'' = .ok (ys'', sE) ∧ acc' ++ ys'' = ys, ?_, ?_⟩
    · rintro H'' ⟨F'', z'', aV, ac, y2, a1, a2, a3, a4, a5, a6, a7, a8, a9, a10⟩
      exact ⟨ds.length - (i + 1), by omega, F'', z'', aV, ac, y2, rfl, hlt, a1, a2, a3, a4, a5, a6, a7, a8, a9, a10⟩
    · intro x H2 hyl
      have key : ∃ F2, Ex F' F2 ∧ Ex H' H2 ∧ SR K B F2 H2 (wipe σ own) (f z) ∧ Dr K F2 x ds[i] ∧ H2 Dn = some (.lst accV) ∧ F2 Dn = none ∧ Nob K F2 H2 (wipe σ own) (f z) Dn := by
        rcases jy i x H2 ds[i] hd hyl with ⟨hx, rfl⟩ | ⟨p, o, hp0, rfl, hx⟩
        · exact ⟨F', Ex.refl F', Ex.refl _, s', hx, hDn, hFn, hnb⟩
        · have hne : Dn ≠ p := ne_of_none hDn hp0
          refine ⟨L2.upd F' p o, Ex.new (s'.ex.none hp0), Ex.new hp0, s'.grow hp0, hx, by rw [upd_ne hne]; exact hDn, by rw [upd_ne hne]; exact hFn, fun i t d fs q S e1 e2 ow ha => ?_⟩
          obtain ⟨ft, hf⟩ := s'.own
          obtain ⟨q', h1, h2, _⟩ := hf.ow i t d fs e1
          rw [e2] at h1
          cases h1
          rw [← Z2w h2 (Ex.new hp0) ow] at ha
          exact hnb i t d fs q (ft i) e1 e2 h2 ha
      obtain ⟨F2, e2, eh2, s2, hx, hD2, hF2, hnb2⟩ := key
      obtain ⟨ft, hf⟩ := s2.own
      have sB := s2.rebase hf
      have off : ∀ {F4 H4 : Hp} {σ4 : L2.St} {env4 : Fm}, SR K (B.at F2 H2 (f z) ft) F4 H4 σ4 env4 -> H4 Dn = some (.lst accV) ∧ F4 Dn = none ∧ Nob K F4 H4 σ4 env4 Dn := fun {F4 H4 σ4 env4} r => by
        obtain ⟨q1, q2, q3⟩ := r.off (p := Dn) (o := .lst accV) hD2 hF2 (hnb2.to ft hf)
        exact ⟨q1, q2, Nob.of r q3⟩
      intro bi
      refine (hb bi z ds[i]).2 (B.at F2 H2 (f z) ft) F2 H2 (wipe σ own) x _ (fun q => q = .ok (y, z1)) sB hx (fun h => nomatch h) hm1 fun env' m' σ2 hY s3 hl3 hk3 hm' => ?_
      subst hm'
      have hw2 : wipe σ2 own = wipe σ own := Ziz (hl3.trans (wipe_length σ own)) fun j hj => (hk3 j hj).trans (wipe_out hj)
      refine ⟨hw2, fun bj => ?_⟩
      have go : ∀ {F4 H4 : Hp} {z4 : S}, Ex F2 F4 -> (pu = true -> Ex H2 H4) -> SR K (B.at F2 H2 (f z) ft) F4 H4 σ2 (f z4) -> SR K B F4 H4 (wipe σ own) (f z4) ∧ Ex F1 F4 ∧ (pu = true -> Ex H1 H4) ∧ H4 Dn = some (.lst accV) ∧ DrA K F4 accV acc ∧ F4 Dn = none ∧ Nob K F4 H4 (wipe σ own) (f z4) Dn := fun {F4 H4 z4} e4 eh4 s4 => by
        obtain ⟨o1, o2, o3⟩ := off s4
        have s5 := toW (s2.unbase hf (fun _ _ z => z) s4)
        rw [hw2] at s5
        refine ⟨s5, e'.trans (e2.trans e4), fun hp => (eh' hp).trans (eh2.trans (eh4 hp)), o1, hacc.mono (e2.trans e4), o2, o3.sig fun j hj => ?_⟩
        rw [← hw2]
        exact wipe_out (hnu z4 j hj)
      refine hY (B.at F2 H2 (f z) ft) F2 H2 σ2 _ _ (fun q => q = .ok (y, z1)) s3 (fun h => nomatch h) (fun _ _ h => nomatch h) (fun z4 F4 H4 h4 e4 eh4 s4 => ?_) (fun y4 z4 v4 F4 H4 h4 e4 eh4 s4 d4 => ?_) rfl bj
      · cases h4
        obtain ⟨g1, g2, g3, g4, g5, g6, g7⟩ := go e4 eh4 s4
        exact ⟨F4, z1, accV, acc, ys1, g2, g3, g1, g4, g5, by omega, g6, g7, hm2, hy⟩
      · cases h4
        obtain ⟨g1, g2, g3, g4, g5, g6, g7⟩ := go e4 eh4 s4
        refine ⟨accV, g4, by rw [g5.length]; omega, F4, z1, accV ++ [v4], acc ++ [y4], ys1, g2, fun hp => ?_, g1.updOff g6 hbD (g7.to), upd_same, g5.append (.one d4), by simp; omega, g6, g7.upd g1, hm2, by rw [List.append_assoc]; exact hy⟩
        intro a o ha
        have hne : a ≠ Dn := ne_of_none ha hD
        rw [upd_ne hne]
        exact g3 hp a o ha
  · left
    have hie : i = ds.length := by omega
    subst hie
    rw [List.drop_length] at hp
    cases hp
    obtain ⟨_, jstop, _⟩ := r1 F' H' e' s'.ex
    have s8 := ofW s'
    refine ⟨jstop _ (Nat.le_refl _), hk _ F' H' e' eh' s8 ⟨Dn, [Dn], rfl, .ce hDn (.lst ?_), fun a ha => ?_, fun ft hf a ha => ?_⟩⟩
    · rw [← hy, List.append_nil]; exact hacc
    · rw [List.mem_singleton.mp ha]; exact ⟨hFn, hbD⟩
    · rw [List.mem_singleton.mp ha]
      exact (hnb.sig fun j hj => (wipe_out (hnu _ j hj)).symm).to ft hf
variable {E : XE} {β γ : Type} {xF : Fm} {xb : β} {env : Fm} {elt tg iter : Expr} {ifs : List Expr} {scope : Scope} {own : List (Str × Nat)} {pos : Pos}
def R.lst {S : Type} (m : R Unit (List D × S)) (k : D -> S -> R β γ) : R β γ := match m with
  | .ok (ys, s) => k (.lst ys) s
  | _ => .no
theorem Zql {ci : (List D -> R β γ) -> R β γ} {mb : D -> Unit -> R Unit (Option D × Unit)} (hi : AI X K E xF xb env tg iter ci) (hu : ∀ j ∈ own.map (·.2), fget env j = .un)
    (hb : ∀ (i : BI) (z : Unit) (d : D), AG (Xb X scope i) K (own.map (·.2)) env tg d (fun env' m' => AEl (Xb X scope) K (fun _ => env) true env' ifs elt m') (mb d z)) :
    AJ K E xF xb env (tLc (tiC X tg iter) (tgB X scope tg) (ttB X scope ifs) (teB X scope elt) (own.map (·.2))) (fun B F H σ v d => rN K B F H σ env v d []) (fun (k : D -> R β γ) => ci fun ds => R.few ds fun ds => R.lst (R.fmapS mb ds ()) fun d _ => k d) := fun B F H σ Q k G s w gx hk hG =>
  hi.2 B F H σ _ _ G s w gx (fun ds J F1 H1 h1 e1 eh1 s1 r1 => by
    unfold R.few at h1
    split at h1
    · rename_i hz
      have h1 : G (R.lst (R.fmapS mb ds ()) fun d _ => k d) := h1
      cases hm : R.fmapS mb ds () with
      | no => rw [hm] at h1; exact (gx.no h1).elim
      | ex x b => rw [hm] at h1; exact (gx.no h1).elim
      | ok p =>
        obtain ⟨ys, u⟩ := p
        rw [hm] at h1
        exact Zph (f := fun _ => env) (s0 := ()) hb (fun _ => hu) s1 r1 hm (of_decide_eq_true hz) fun v F' H' e2 eh2 s2 r2 => hk _ v F' H' h1 (e1.trans e2) (eh1.trans (eh2 rfl)) s2 r2
    · exact (gx.no h1).elim) hG
theorem Zp0 {own : List (Str × Nat)} (hc : X.calm = true) (hN : X.N.Nodup) (ok : BlkOk X.N X.env.scope scope own) (hs : ∀ x, foldedSetIterable iter X.env x = pure x) :
    PE X (.ListComp elt [⟨tg, iter, ifs, 0⟩] scope pos) (tLc (tiC X tg iter) (tgB X scope tg) (ttB X scope ifs) (teB X scope elt) (own.map (·.2))) :=
  pe_lc hc hN pi_C ok (fun s H C cl fp => ⟨fun pins s' σ H' v u Q I r h => (pg_C (X := X.blk s H scope (compEnvC scope cl C X.env) fp)).run pins s' σ H' v u Q I r (h (s, H, C, cl, fp))⟩)
    (fun s H C cl fp => ⟨fun pins s' σ H' Q I h => (Zoy (X := X.blk s H scope (compEnvC scope cl C X.env) fp)).run pins s' σ H' Q I (h (s, H, C, cl, fp))⟩)
    (fun s H C cl fp => ⟨fun pins s' σ H' Q I h => (pe_C (X := X.blk s H scope (compEnvC scope cl C X.env) fp)).run pins s' σ H' Q I (h (s, H, C, cl, fp))⟩) hs
theorem a_lc {ci : (List D -> R β γ) -> R β γ} {mb : D -> Unit -> R Unit (Option D × Unit)} (own : List (Str × Nat)) (hi : AI X K E xF xb env tg iter ci)
    (hb : ∀ (i : BI) (z : Unit) (d : D), AG (Xb X scope i) K (own.map (·.2)) env tg d (fun env' m' => AEl (Xb X scope) K (fun _ => env) true env' ifs elt m') (mb d z)) (hc : X.calm = true) (hN : X.N.Nodup) (ok : BlkOk X.N X.env.scope scope own)
    (hu : ∀ j ∈ own.map (·.2), fget env j = .un) (hs : ∀ x, foldedSetIterable iter X.env x = pure x := by intro _; rfl) :
    AN X K E xF xb env [] (.ListComp elt [⟨tg, iter, ifs, 0⟩] scope pos) (fun (k : D -> R β γ) => ci fun ds => R.few ds fun ds => R.lst (R.fmapS mb ds ()) fun d _ => k d) :=
  ⟨hi.1, fun B F H σ Q k G s w gx hk hG => ⟨_, Zp0 hc hN ok hs, Zql hi hu hb B F H σ Q k G s w gx hk hG⟩⟩
theorem Zbe {ω : Type} {κ : Kt β ω} {rest : List Stmt} {ci : (List D -> R β ω) -> R β ω} {mb : D -> Unit -> R Unit (Option D × Unit)} {m : D -> R β ω} {y : Str} {py spos : Pos} (i : Nat) (own : List (Str × Nat)) (xb : β) (hi : AI X K E (κ.fx xb) xb env tg iter ci) (hx : Wk env (κ.fx xb))
    (hb : ∀ (i : BI) (z : Unit) (d : D), AG (Xb X scope i) K (own.map (·.2)) env tg d (fun env' m' => AEl (Xb X scope) K (fun _ => env) true env' ifs elt m') (mb d z)) (hr : ∀ d, AB X K E κ (fput env i (.ow none d [])) rest (m d)) (hc : X.calm = true) (hN : X.N.Nodup) (ok : BlkOk X.N X.env.scope scope own)
    (hu : ∀ j ∈ own.map (·.2), fget env j = .un) (hyl : X.env.scope.names.lookup y = some .local) (hsw : swapsWith (.ListComp elt [⟨tg, iter, ifs, 0⟩] scope pos) (some (.Name y py)) spos.line X.env = pure true) (hy : X.N[i]? = some y := by rfl) (hs : ∀ x, foldedSetIterable iter X.env x = pure x := by intro _; rfl) :
    AB X K E κ env (.Assign [.Name y py] (.ListComp elt [⟨tg, iter, ifs, 0⟩] scope pos) spos :: rest) (ci fun ds => R.few ds fun ds => R.lst (R.fmapS mb ds ()) fun d _ => m d) :=
  ⟨hi.1, fun B F H σ Dn G sr gs hG => ⟨_, pss_cons (ps_setLc hc hN hy hyl hsw pi_C ok (fun s H C cl fp => ⟨fun pins s' σ H' v u Q I r h => (pg_C (X := X.blk s H scope (compEnvC scope cl C X.env) fp)).run pins s' σ H' v u Q I r (h (s, H, C, cl, fp))⟩)
    (fun s H C cl fp => ⟨fun pins s' σ H' Q I h => (Zoy (X := X.blk s H scope (compEnvC scope cl C X.env) fp)).run pins s' σ H' Q I (h (s, H, C, cl, fp))⟩)
    (fun s H C cl fp => ⟨fun pins s' σ H' Q I h => (pe_C (X := X.blk s H scope (compEnvC scope cl C X.env) fp)).run pins s' σ H' Q I (h (s, H, C, cl, fp))⟩) hs) ps_C,
    Zql hi hu hb B F H σ _ _ G sr hx (gs.gx xb) (fun d v F1 H1 h1 e1 eh1 s1 d1 => (hr d).2 B F1 H1 _ Dn G (s1.setO d1) (gs.mono e1) h1) hG⟩⟩
end
end DM
namespace DM
open PySem PySem.Spec PyProof.Rows L2 DL
def Z33 (vs : List V) (k : Nat) : Option Addr := match vs[k]? with
  | some (.ref p) => some p
  | _ => none
abbrev Mask := List (Option (List Str))
def Z3h : List D -> Mask -> Nat -> Fm
  | d :: ds, none :: ms, i => .fz d :: Z3h ds ms (i + 1)
  | d :: ds, some fs :: ms, i => .ow (some i) d fs :: Z3h ds ms (i + 1)
  | _, _, _ => []
def Z11 : List D -> Mask -> Nat -> Fm
  | os, none :: ms, i => .un :: Z11 os ms (i + 1)
  | o :: os, some fs :: ms, i => .ow (some i) o fs :: Z11 os ms (i + 1)
  | [], some _ :: ms, i => .un :: Z11 [] ms (i + 1)
  | _, [], _ => []
def Zkp (K : PySem.W.Frag) (B : Bs) (F : Hp) (σ : L2.St) (E : XK) (nw : Option (List Str)) (mask : Mask) (Q : VK) : R (List D) (D × List D) -> Prop
  | .ok (d, os) => ∀ v F' H', Ex F F' -> SR K B F' H' σ (Z11 os mask 0) -> rR K nw B F' H' σ (Z11 os mask 0) v d -> Q v H'
  | .ex x os => ∀ c dd F' H', Ex F F' -> SR K B F' H' σ (Z11 os mask 0) -> XR K F' x c dd -> E c dd H'
  | .no => False
def spM (K : PySem.W.Frag) (mask : Mask) (nw : Option (List Str)) (mL : List D -> R (List D) (D × List D)) : Sp := fun vs H Q E => vs.length = mask.length ∧ ∃ F ds ps, ds.length = mask.length ∧ SR K ⟨F, H, ps, Z33 vs⟩ F H (vs.map some) (Z3h ds mask 0) ∧ Zkp K ⟨F, H, ps, Z33 vs⟩ F (vs.map some) E nw mask Q (mL ds)
def Lp (m : List D -> R Unit D) : List D -> R (List D) (D × List D) := fun ds => match m ds with
  | .ok d => .ok (d, [])
  | .ex x _ => .ex x []
  | .no => .no
def L1e (m : List D -> R Unit (D × D)) : List D -> R (List D) (D × List D) := fun ds => match m ds with
  | .ok (d, o) => .ok (d, [o])
  | .ex x _ => .ex x []
  | .no => .no
abbrev mk0 (n : Nat) : Mask := List.replicate n none
section
variable {X : Cx} {CX : CXT} {k : Nat} {f : Addr} {fd : FuncData} {ps : List Str} {sp : Sp} {ds : List Value} {dvs : List V} {E : L2.St -> XK}
theorem Zr9 {pins : List (Addr × Obj)} {σ : L2.St} {H : Hp} {s : Shared} {Q : VK} {us : List Value} {vs : List V} (F : FnG X.prog X.w X.K X.mg X.base CX k f fd ps sp) (hr : Room k X.A) (hG : Quiet X.A) (hb : Binds X.K fd ps ds) (hd : Vals dvs ds) (hx : PassesAt CX X σ (E σ)) (I : Inv X pins σ H s) (r : Vals vs us)
    (h : sp (vs ++ dvs) H Q (E σ)) : wpAny (model X.prog X.w) X.A (call (.ref f) us) (EP X pins σ Q) X.xe s := by
  have rr := r.append hd
  have hl : (us ++ ds).length = ps.length := rr.length.symm.trans (F.ln _ _ _ _ h)
  refine wpAny_call (codeAny_mono (F.go X.A X.stack s H ⟨us, []⟩ (us ++ ds) (vs ++ dvs) Q (E σ) hr hG I.env0 (hb s us I.kIn hl) rr h) fun z s' hq => ?_)
  match z, hq with
  | .error e, hq => exact hx pins H s e s' I hq
  | .ok (.ret u), hq => exact I.after hq
  | .ok .next, hq | .ok .brk, hq | .ok .cont, hq => exact False.elim hq
theorem Z5p {x : Str} {e : Expr} {es : List Expr} {t : TA} {p pos : Pos} (F : FnG X.prog X.w X.K X.mg X.base CX k f fd ps sp) (hr : Room k X.A) (hG : Quiet X.A) (hg : Gl X x) (hm : X.mg x = some (.ref f)) (hk : PySem.W.keepIn X.K (.ref f) = true) (hb : Binds X.K fd ps ds) (hd : Vals dvs ds) (hx : ∀ σ, PassesAt CX X σ (E σ)) (ha : PA X (e :: es) t)
    (hdb : (x == ("__debug__" : Str)) = false) (he : starEach (e :: es) X.env = (false, eval e X.env) :: starEach es X.env) (hpl : (backTo pos (starEach es X.env)).any (·.1) = false) : PE X (.Call (.Name x p) (e :: es) [] pos) (tCallSD sp dvs E t) :=
  ⟨fun pins s σ H Q I h => wpAny_Call_Name_kw (ld_glob I hg hm (PySem.W.callWith_K (h₀ := X.base) I.ok.mod.kin hk (thn (ha.run pos pins s σ H _ I h) fun us s1 ⟨vs, H1, I1, r, q⟩ => ⟨I1.kIn, Zr9 F hr hG hb hd (hx σ) I1 r q⟩) he hpl) hdb)⟩
end
section
variable {K : PySem.W.Frag} {B B' : Bs} {F H F' H' : Hp} {σ σ' : L2.St} {env as : Fm}
theorem Z80 : ∀ {n : Nat} {ds : List D} {j : Nat}, ds.length = n -> Z3h ds (mk0 n) j = ds.map .fz
  | 0, [], _, _ => rfl
  | n + 1, d :: ds, j, h => by
    show .fz d :: Z3h ds (mk0 n) (j + 1) = .fz d :: ds.map .fz
    rw [Z80 (by simpa using h)]
theorem Z96 {ds : List D} {i : Nat} {x : Sl} (h : fget (ds.map Sl.fz) i = x) (n : x ≠ .un) : ∃ d, ds[i]? = some d ∧ x = .fz d := by
  induction ds generalizing i with
  | nil => exact absurd h.symm n
  | cons d ds ih =>
    cases i with
    | zero => exact ⟨d, rfl, h.symm⟩
    | succ i =>
      obtain ⟨d', h1, h2⟩ := ih (i := i) h
      exact ⟨d', by simpa using h1, h2⟩
theorem SR.args (e : Ex F H) {vs : List V} {ds : List D} (h : DrA K F vs ds) (hB : B'.F0 = F) (hH : B'.H0 = H) : SR K B' F H (vs.map some) (ds.map .fz) where
  ex := e
  ex0 := by rw [hB]; exact Ex.refl F
  keep := fun a o h _ => by rw [hH] at h; exact h
  newF := fun a o h => Or.inl (by rw [hB, h]; exact fun z => nomatch z)
  len := by rw [List.length_map, List.length_map]; exact h.length
  fz := fun i d h1 => by
    obtain ⟨d', h2, h3⟩ := Z96 h1 (fun z => nomatch z)
    cases h3
    obtain ⟨v, h4, h5⟩ := h.get h2
    exact ⟨v, by rw [List.getElem?_map, h4]; rfl, h5⟩
  xc := fun i a d gs h1 => by
    obtain ⟨d', h2, h3⟩ := Z96 h1 (fun z => nomatch z)
    cases h3
  own := ⟨fun _ => [], ⟨fun i t d fs h1 => (by
    obtain ⟨d', h2, h3⟩ := Z96 h1 (fun z => nomatch z)
    cases h3), fun i j t u d e fs gs _ _ _ a ha => nomatch ha⟩⟩
theorem SR.after (s : SR K B F H σ env) (r : SR K B' F' H' σ' as) (hF : B'.F0 = F) (hH : B'.H0 = H) (hps : ∀ p, ¬ B'.ps p) : SR K B F' H' σ env ∧ Ex H H' := by
  have e0 : Ex F F' := by have := r.ex0; rw [hF] at this; exact this
  have eh : Ex H H' := fun a o h => r.keep a o (by rw [hH]; exact h) (hps a)
  have hn : ∀ a o, F' a = some o -> F a = some o ∨ H a = none := fun a o h => by
    rcases r.newF a o h with z | z | z
    · rw [hF] at z
      cases q : F a with
      | none => exact absurd q z
      | some u =>
        have := e0 a u q
        rw [h] at this
        cases this
        exact .inl rfl
    · rw [hH] at z; exact .inr z
    · exact absurd z (hps a)
  refine ⟨⟨r.ex, s.ex0.trans e0, fun a o h n => eh a o (s.keep a o h n), fun a o h => ?_, s.len, fun i d h1 => ?_, fun i a d gs h1 => ?_, ?_⟩, eh⟩
  · rcases hn a o h with z | z
    · exact s.newF a o z
    · exact Or.inr (s.new_b z)
  · obtain ⟨v, h2, h3⟩ := s.fz i d h1
    exact ⟨v, h2, h3.mono e0⟩
  · obtain ⟨h2, fs, h3, h4, h5⟩ := s.xc i a d gs h1
    exact ⟨h2, fs, e0 _ _ h3, h4, h5.mono e0⟩
  · obtain ⟨ft, hf⟩ := s.own
    refine ⟨ft, hf.congr e0 fun a ha => ?_⟩
    obtain ⟨h1, ⟨u, h2⟩, _⟩ := hf.owned_b ha
    refine ⟨by rw [eh a u h2, h2], ?_⟩
    cases q : F' a with
    | none => rfl
    | some o =>
      rcases hn a o q with z | z
      · rw [h1] at z; cases z
      · rw [h2] at z; cases z
theorem SR.afterS {S : List Addr} (s : SR K B F H σ env) (hS : ∀ a ∈ S, F a = none ∧ (B.H0 a = none ∨ B.ps a)) (hn : ∀ ft, Hs K B F H σ env ft -> ∀ a ∈ S, ¬ owned env ft a) (r : SR K B' F' H' σ' as) (hF : B'.F0 = F) (hH : B'.H0 = H) (hps : ∀ p, B'.ps p -> p ∈ S) : SR K B F' H' σ env := by
  have e0 : Ex F F' := by have := r.ex0; rw [hF] at this; exact this
  have eh : ∀ a o, a ∉ S -> H a = some o -> H' a = some o := fun a o hna h => r.keep a o (by rw [hH]; exact h) fun z => hna (hps a z)
  have hnew : ∀ a o, F' a = some o -> F a = some o ∨ H a = none ∨ a ∈ S := fun a o h => by
    rcases r.newF a o h with z | z | z
    · rw [hF] at z
      cases q : F a with
      | none => exact absurd q z
      | some u =>
        have := e0 a u q
        rw [h] at this
        cases this
        exact .inl rfl
    · rw [hH] at z; exact .inr (.inl z)
    · exact .inr (.inr (hps a z))
  refine ⟨r.ex, s.ex0.trans e0, fun a o h n => eh a o (fun z => ?_) (s.keep a o h n), fun a o h => ?_, s.len, fun i d h1 => ?_, fun i a d gs h1 => ?_, ?_⟩
  · rcases (hS a z).2 with q | q
    · rw [h] at q; cases q
    · exact n q
  · rcases hnew a o h with z | z | z
    · exact s.newF a o z
    · exact Or.inr (s.new_b z)
    · exact Or.inr (hS a z).2
  · obtain ⟨v, h2, h3⟩ := s.fz i d h1
    exact ⟨v, h2, h3.mono e0⟩
  · obtain ⟨h2, fs, h3, h4, h5⟩ := s.xc i a d gs h1
    exact ⟨h2, fs, e0 _ _ h3, h4, h5.mono e0⟩
  · obtain ⟨ft, hf⟩ := s.own
    refine ⟨ft, hf.congr e0 fun a ha => ?_⟩
    obtain ⟨h1, ⟨u, h2⟩, _⟩ := hf.owned_b ha
    have hna : a ∉ S := fun z => hn ft hf a z ha
    refine ⟨by rw [eh a u hna h2, h2], ?_⟩
    cases q : F' a with
    | none => rfl
    | some o =>
      rcases hnew a o q with z | z | z
      · rw [h1] at z; cases z
      · rw [h2] at z; cases z
      · exact absurd z hna
theorem Z6k : ∀ (n j : Nat) (i : Nat), fget (Z11 [] (mk0 n) j) i = .un
  | 0, _, _ => rfl
  | n + 1, j, 0 => rfl
  | n + 1, j, i + 1 => Z6k n (j + 1) i
end
structure Dfn (P : Program) (w : World) (K : PySem.W.Frag) (mg : Str -> Option Value) (base : Heap) (k : Nat) (x : Str) (mask : Mask) (nw : Option (List Str)) (mL : List D -> R (List D) (D × List D)) : Prop where
  ex : ∃ (f : Addr) (fd : FuncData) (ps : List Str), FnG P w K mg base (L2.CX P w) k f fd ps (spM K mask nw mL) ∧ mg x = some (.ref f) ∧ PySem.W.keepIn K (.ref f) = true ∧ Binds K fd ps []
section
variable {X : Cx} {K : PySem.W.Frag} {E : XE} {β γ : Type} {xF : Fm} {xb : β} {env : Fm} {e : Expr} {es : List Expr} {pos p : Pos} {k n : Nat} {x : Str} {cs : (List D -> R β γ) -> R β γ}
theorem Zly {B : Bs} {F H : Hp} {σ : L2.St} {vs : List V} {ds : List D} {Q : VK} {Ek : XK} {mL : List D -> R (List D) (D × List D)} {nw : Option (List Str)} (s : SR K B F H σ env) (hA : DrA K F vs ds) (hn : ds.length = n)
    (hok : ∀ d os, mL ds = .ok (d, os) -> ∀ v F' H', Ex F F' -> Ex H H' -> SR K B F' H' σ env -> rR K nw B F' H' σ env v d -> Q v H')
    (hex : ∀ x os, mL ds = .ex x os -> ∀ c dd F' H', Ex F F' -> SR K B F' H' σ env -> XR K F' x c dd -> Ek c dd H') (hno : mL ds ≠ .no) : spM K (mk0 n) nw mL vs H Q Ek := by
  refine ⟨by rw [hA.length, hn, List.length_replicate], F, ds, fun _ => False, by rw [hn, List.length_replicate], ?_, ?_⟩
  · rw [Z80 hn]
    exact SR.args s.ex hA rfl rfl
  · cases hm : mL ds with
    | no => exact hno hm
    | ex y os =>
      intro c dd F' H' e1 s1 x1
      exact hex y os hm c dd F' H' e1 (s.after s1 rfl rfl fun _ h => h).1 x1
    | ok q =>
      obtain ⟨d, os⟩ := q
      intro v F' H' e1 s1 r1
      obtain ⟨s2, eh⟩ := s.after s1 rfl rfl fun _ h => h
      refine hok d os hm v F' H' e1 eh s2 ?_
      cases nw with
      | none => exact r1
      | some fs =>
        obtain ⟨q, S, h1, h2, h3, h4⟩ := r1
        have h5 : ∀ a ∈ S, H a = none := fun a ha => (h3 a ha).2.elim id False.elim
        refine ⟨q, S, h1, h2, fun a ha => ⟨(h3 a ha).1, s.new_b (h5 a ha)⟩, fun ft hf a ha z => ?_⟩
        obtain ⟨i, t, d2, f2, g1, g2⟩ := z
        obtain ⟨ft0, hf0⟩ := s.own
        obtain ⟨q0, q1, q2, _⟩ := hf0.ow i t d2 f2 g1
        obtain ⟨q', r1, r2, _⟩ := hf.ow i t d2 f2 g1
        rw [q1] at r1
        cases r1
        exact Zb2 q2 eh r2 a g2 (h5 a ha)
theorem Z55 {B : Bs} {F H : Hp} {σ : L2.St} {vs : List V} {ds : List D} {Q : VK} {mf : List D -> R Unit D} {nw : Option (List Str)} {k : D -> R β γ} {G : R β γ -> Prop} (s : SR K B F H σ env) (w : Wk env xF) (gx : Gx K B E F σ xF xb G) (d1 : DrA K F vs ds) (hl : mf ds ≠ .no -> ds.length = n)
    (hk : ∀ d v F' H', G (k d) -> Ex F F' -> Ex H H' -> SR K B F' H' σ env -> rR K nw B F' H' σ env v d -> Q v H') (h1 : G (R.call (mf ds) xb k)) : spM K (mk0 n) nw (Lp mf) vs H Q (E σ) := by
  have hno : mf ds ≠ .no := fun z => by rw [z] at h1; exact gx.no h1
  refine Zly s d1 (hl hno) (fun d os hm v F' H' e2 eh2 s2 r2 => ?_) (fun y os hm c dd F' H' e2 s2 x2 => ?_) (fun z => ?_)
  · unfold Lp at hm
    cases hq : mf ds with
    | no => exact absurd hq hno
    | ex _ _ => rw [hq] at hm; cases hm
    | ok d' =>
      rw [hq] at hm h1
      cases hm
      exact hk d v F' H' h1 e2 eh2 s2 r2
  · unfold Lp at hm
    cases hq : mf ds with
    | no => exact absurd hq hno
    | ok _ => rw [hq] at hm; cases hm
    | ex y' u =>
      rw [hq] at hm h1
      cases hm
      exact gx.ex y h1 c dd F' H' e2 (s2.wk w) x2
  · unfold Lp at z
    cases hq : mf ds with
    | no => exact hno hq
    | ok _ => rw [hq] at z; cases z
    | ex _ _ => rw [hq] at z; cases z
theorem Zki {mf : List D -> R Unit D} (ha : AA X K E xF xb env es cs) (hl : ∀ ds, mf ds ≠ .no -> ds.length = n) :
    AJ K E xF xb env (tCallSD (spM K (mk0 n) none (Lp mf)) [] E (taC X es)) (fun _ F _ _ v d => Dr K F v d) (fun (k : D -> R β γ) => cs fun ds => R.call (mf ds) xb k) := fun B F H σ Q k G s w gx hk hG =>
  ha.2 B F H σ _ _ G s w gx (fun ds vs F1 H1 h1 e1 eh1 s1 d1 => by
    show spM K (mk0 n) none (Lp mf) (vs ++ []) H1 Q (E σ)
    rw [List.append_nil]
    exact Z55 s1 w (gx.mono e1) d1 (hl ds) (fun d v F' H' g e2 eh2 s2 r2 => hk d v F' H' g (e1.trans e2) (eh1.trans eh2) s2 r2) h1) hG
theorem Zkh {mf : List D -> R Unit D} {fs : List Str} (ha : AA X K E xF xb env es cs) (hl : ∀ ds, mf ds ≠ .no -> ds.length = n) :
    AJ K E xF xb env (tCallSD (spM K (mk0 n) (some fs) (Lp mf)) [] E (taC X es)) (fun B F H σ v d => rN K B F H σ env v d fs) (fun (k : D -> R β γ) => cs fun ds => R.call (mf ds) xb k) := fun B F H σ Q k G s w gx hk hG =>
  ha.2 B F H σ _ _ G s w gx (fun ds vs F1 H1 h1 e1 eh1 s1 d1 => by
    show spM K (mk0 n) (some fs) (Lp mf) (vs ++ []) H1 Q (E σ)
    rw [List.append_nil]
    exact Z55 s1 w (gx.mono e1) d1 (hl ds) (fun d v F' H' g e2 eh2 s2 r2 => hk d v F' H' g (e1.trans e2) (eh1.trans eh2) s2 r2) h1) hG
theorem Zw {mf : List D -> R Unit D} (F : Dfn X.prog X.w K X.mg X.base k x (mk0 n) none (Lp mf)) (hl : ∀ ds, mf ds ≠ .no -> ds.length = n) (ha : AA X K E xF xb env (e :: es) cs) (hr : Room k X.A) (hG : Quiet X.A) (hx : ∀ σ, PassesAt (L2.CX X.prog X.w) X σ (E σ)) (hg : Gl X x)
    (hdb : (x == ("__debug__" : Str)) = false := by decide) (he : starEach (e :: es) X.env = (false, eval e X.env) :: starEach es X.env := by rfl) (hpl : (backTo pos (starEach es X.env)).any (·.1) = false := by rfl) :
    AE X K E xF xb env (.Call (.Name x p) (e :: es) [] pos) (fun (k : D -> R β γ) => cs fun ds => R.call (mf ds) xb k) := by
  have hK := ha.1
  subst hK
  obtain ⟨f, fd, ps, h1, h2, h3, h4⟩ := F.ex
  exact ⟨rfl, fun B F H σ Q k G s w gx hk hG' => ⟨_, Z5p h1 hr hG hg h2 h3 h4 .nil hx pa_C hdb he hpl, Zki ha hl B F H σ Q k G s w gx hk hG'⟩⟩
theorem Ziu {mf : List D -> R Unit D} {fs : List Str} (F : Dfn X.prog X.w K X.mg X.base k x (mk0 n) (some fs) (Lp mf)) (hl : ∀ ds, mf ds ≠ .no -> ds.length = n) (ha : AA X K E xF xb env (e :: es) cs) (hr : Room k X.A) (hG : Quiet X.A) (hx : ∀ σ, PassesAt (L2.CX X.prog X.w) X σ (E σ)) (hg : Gl X x)
    (hdb : (x == ("__debug__" : Str)) = false := by decide) (he : starEach (e :: es) X.env = (false, eval e X.env) :: starEach es X.env := by rfl) (hpl : (backTo pos (starEach es X.env)).any (·.1) = false := by rfl) :
    AN X K E xF xb env fs (.Call (.Name x p) (e :: es) [] pos) (fun (k : D -> R β γ) => cs fun ds => R.call (mf ds) xb k) := by
  have hK := ha.1
  subst hK
  obtain ⟨f, fd, ps, h1, h2, h3, h4⟩ := F.ex
  exact ⟨rfl, fun B F H σ Q k G s w gx hk hG' => ⟨_, Z5p h1 hr hG hg h2 h3 h4 .nil hx pa_C hdb he hpl, Zkh ha hl B F H σ Q k G s w gx hk hG'⟩⟩
theorem Zog {B : Bs} {F H : Hp} {σ : L2.St} {vs : List V} {ds : List D} {Q : VK} {Ek : XK} {mL : List D -> R (List D) (D × List D)} {i : Nat} {t : Option Nat} {o : D} {fs : List Str} {q : Addr} (s : SR K B F H σ env) (hi : fget env i = .ow t o fs) (hp : σ[i]? = some (some (.ref q))) (hA : DrA K F vs ds) (hn : ds.length = n)
    (hok : ∀ d os, mL (o :: ds) = .ok (d, os) -> ∃ o', os = [o'] ∧ ∀ v F' H', Ex F F' -> SR K B F' H' σ (fput env i (.ow t o' fs)) -> Dr K F' v d -> Q v H')
    (hex : ∀ x os, mL (o :: ds) = .ex x os -> (∃ o', os = [o'] ∧ ∀ c dd F' H', Ex F F' -> SR K B F' H' σ (fput env i (.ow t o' fs)) -> XR K F' x c dd -> Ek c dd H') ∨ (os = [] ∧ ∀ c dd F' H', Ex F F' -> SR K B F' H' σ (fput env i .un) -> XR K F' x c dd -> Ek c dd H')) (hno : mL (o :: ds) ≠ .no) : spM K (some fs :: mk0 n) none mL (.ref q :: vs) H Q Ek := by
  obtain ⟨ft, hf⟩ := s.own
  obtain ⟨q', h1, h2, h3, h4⟩ := hf.ow i t o fs hi
  rw [hp] at h1
  cases h1
  have sa := SR.args (B' := ⟨F, H, fun a => a ∈ ft i, Z33 (.ref q :: vs)⟩) s.ex hA rfl rfl
  have hargs : Z3h (o :: ds) (some fs :: mk0 n) 0 = .ow (some 0) o fs :: ds.map .fz := by
    show .ow (some 0) o fs :: Z3h ds (mk0 n) 1 = _
    rw [Z80 hn]
  have s0 : SR K ⟨F, H, fun a => a ∈ ft i, Z33 (.ref q :: vs)⟩ F H ((V.ref q :: vs).map some) (.ow (some 0) o fs :: ds.map .fz) := by
    refine ⟨s.ex, Ex.refl F, fun _ _ h _ => h, fun a o h => Or.inl fun z => ?_, by simp [hA.length], fun j d h => ?_, fun j a d gs h => ?_, fun j => if j = 0 then ft i else [], fun j t' d f' h => ?_, fun j k t1 t2 d1 d2 f1 f2 hjk g1 g2 a a1 a2 => ?_⟩
    · have z' : F a = none := z
      rw [h] at z'; cases z'
    · cases j with
      | zero => cases h
      | succ j => exact sa.fz j d h
    · cases j with
      | zero => cases h
      | succ j => exact sa.xc j a d gs h
    · cases j with
      | zero =>
        cases h
        exact ⟨q, rfl, h2, fun a ha => ⟨(h3 a ha).1, Or.inr ha⟩, fun k hk => by cases hk; rfl⟩
      | succ j =>
        obtain ⟨d', _, z⟩ := Z96 (show fget (ds.map Sl.fz) j = _ from h) fun z => nomatch z
        cases z
    · cases j with
      | zero =>
        cases k with
        | zero => exact hjk rfl
        | succ k => simp at a2
      | succ j => simp at a1
  have back : ∀ {F' H' : Hp} {o' : D} {os : Fm}, SR K ⟨F, H, fun a => a ∈ ft i, Z33 (.ref q :: vs)⟩ F' H' ((V.ref q :: vs).map some) (.ow (some 0) o' fs :: os) -> SR K B F' H' σ (fput env i (.ow t o' fs)) := fun {F' H' o' os} r => by
    obtain ⟨ft', hf'⟩ := r.own
    obtain ⟨q2, g1, g2, g3, g4⟩ := hf'.ow 0 (some 0) o' fs rfl
    have : some (some (V.ref q)) = some (some (V.ref q2)) := g1
    cases this
    obtain ⟨p3, S3, k1, k2, k3, k4⟩ := s.chg hi
    rw [hp] at k1
    cases k1
    have hS : S3 = ft i := Z2w k2 (Ex.refl _) h2
    subst hS
    refine k4 F' H' o' fs (ft' 0) r.ex0 (fun a o h => ?_) r.ex (fun a o hna h => r.keep a o h hna) g2 fun a ha => ⟨?_, (g3 a ha).1⟩
    · rcases r.newF a o h with z | z | z
      · cases w : F a with
        | none => exact absurd w z
        | some u =>
          have := r.ex0 a u w
          rw [h] at this
          cases this
          exact .inl rfl
      · exact .inr (.inl z)
      · exact .inr (.inr z)
    · rcases (g3 a ha).2 with z | z
      · exact .inr z
      · exact .inl z
  refine ⟨by simp [hA.length, hn], F, o :: ds, fun a => a ∈ ft i, by simp [hn], ?_, ?_⟩
  · rw [hargs]
    exact s0
  · cases hm : mL (o :: ds) with
    | no => exact hno hm
    | ex y os =>
      rcases hex y os hm with ⟨o', rfl, hq⟩ | ⟨rfl, hq⟩
      · exact fun c dd F' H' e1 s1 x1 => hq c dd F' H' e1 (back s1) x1
      · refine fun c dd F' H' e1 s1 x1 => hq c dd F' H' e1 ((s.wk (Wk.un env i)).afterS (S := ft i) h3 (fun ft' hf' a ha z => ?_) s1 rfl rfl fun _ z => z) x1
        obtain ⟨j, t2, d2, f2, g1, g2⟩ := z
        have hij : i ≠ j := fun z => by
          subst z
          rcases Z7p env (i := i) .un with z | z <;> (rw [z] at g1; cases g1)
        have g3 := g1
        rw [Zz _ _ hij] at g3
        obtain ⟨q2, q3, q4, _⟩ := hf.ow j t2 d2 f2 g3
        obtain ⟨q5, q6, q7, _⟩ := hf'.ow j t2 d2 f2 g1
        rw [q3] at q6
        cases q6
        rw [← Z2w q4 (Ex.refl _) q7] at g2
        exact hf.dis i j t t2 o d2 fs f2 hij hi g3 a ha g2
    | ok r =>
      obtain ⟨d, os⟩ := r
      obtain ⟨o', rfl, hq⟩ := hok d os hm
      exact fun v F' H' e1 s1 r1 => hq v F' H' e1 (back s1) r1
end
def kP (n : Nat) (nw : Option (List Str)) : Kt Unit D where
  fx := fun _ => List.replicate n .un
  Sn := Unit
  fn := fun _ => List.replicate n .un
  kn := fun _ => match nw with
    | none => .ok .non
    | some _ => .no
  Sb := Empty
  fb := fun z => z.elim
  kb := fun z => z.elim
  Sc := Empty
  fc := fun z => z.elim
  kc := fun z => z.elim
  Sr := Unit
  fr := fun _ => List.replicate n .un
  kr := fun d _ => .ok d
  nw := nw
def kR0 (n : Nat) (fs : List Str) : Kt Unit (D × D) where
  fx := fun _ => List.replicate (n + 1) .un
  Sn := D
  fn := fun o => .ow (some 0) o fs :: List.replicate n .un
  kn := fun o => .ok (.non, o)
  Sb := Empty
  fb := fun z => z.elim
  kb := fun z => z.elim
  Sc := Empty
  fc := fun z => z.elim
  kc := fun z => z.elim
  Sr := D
  fr := fun o => .ow (some 0) o fs :: List.replicate n .un
  kr := fun d o => .ok (d, o)
  nw := none
section
variable {P : Program} {w : World} {K : PySem.W.Frag} {mg : Str -> Option Value} {base : Heap}
theorem Zb4 : ∀ (as bs : Fm) (i : Nat), i < as.length -> fget (as ++ bs) i = fget as i
  | [], _, _, h => by simp at h
  | _ :: _, _, 0, _ => rfl
  | _ :: as, bs, i + 1, h => Zb4 as bs i (by simpa using h)
theorem Z8e : ∀ (n i : Nat), fget (List.replicate n .un) i = .un
  | 0, _ => rfl
  | n + 1, 0 => rfl
  | n + 1, i + 1 => Z8e n i
theorem Z5k : ∀ (as : Fm) (n i : Nat) {x : Sl}, fget (as ++ List.replicate n .un) i = x -> x ≠ .un -> fget as i = x
  | [], n, i, x, h, hn => absurd (h.symm.trans (Z8e n i)) hn
  | _ :: _, _, 0, _, h, _ => h
  | _ :: as, n, i + 1, x, h, hn => Z5k as n i h hn
theorem SR.start {B : Bs} {F H : Hp} {vs : List V} {as : Fm} (s : SR K B F H (vs.map some) as) (n : Nat) : SR K B F H (vs.map some ++ List.replicate n none) (as ++ List.replicate n .un) where
  ex := s.ex
  ex0 := s.ex0
  keep := s.keep
  newF := s.newF
  len := by rw [List.length_append, List.length_append, List.length_replicate, List.length_replicate, s.len]
  fz := fun i d e => by
    have e := Z5k as n i e fun z => nomatch z
    obtain ⟨v, h1, h2⟩ := s.fz i d e
    exact ⟨v, by rw [List.getElem?_append_left (by rw [s.len]; exact Z36 e fun z => nomatch z)]; exact h1, h2⟩
  xc := fun i a d gs e => by
    have e := Z5k as n i e fun z => nomatch z
    obtain ⟨h1, h2⟩ := s.xc i a d gs e
    exact ⟨by rw [List.getElem?_append_left (by rw [s.len]; exact Z36 e fun z => nomatch z)]; exact h1, h2⟩
  own := by
    obtain ⟨ft, hf⟩ := s.own
    refine ⟨ft, fun i t d fs e => ?_, fun i j t u d e fs gs hij e1 e2 => hf.dis i j t u d e fs gs hij (Z5k as n i e1 fun z => nomatch z) (Z5k as n j e2 fun z => nomatch z)⟩
    have e := Z5k as n i e fun z => nomatch z
    obtain ⟨q, h1, h2⟩ := hf.ow i t d fs e
    exact ⟨q, by rw [List.getElem?_append_left (by rw [s.len]; exact Z36 e fun z => nomatch z)]; exact h1, h2⟩
theorem SR.unAll {B : Bs} {F H : Hp} {σ σ' : L2.St} {env env' : Fm} (s : SR K B F H σ env) (hu : ∀ i, fget env' i = .un) (hl : σ'.length = env'.length) : SR K B F H σ' env' where
  ex := s.ex
  ex0 := s.ex0
  keep := s.keep
  newF := s.newF
  len := hl
  fz := fun i d e => by rw [hu i] at e; cases e
  xc := fun i a d gs e => by rw [hu i] at e; cases e
  own := ⟨fun _ => [], ⟨fun i t d fs e => (by rw [hu i] at e; cases e), fun i j t u d e fs gs _ e1 => (by rw [hu i] at e1; cases e1)⟩⟩
theorem Z63 : ∀ (n j : Nat), (Z11 [] (mk0 n) j).length = n
  | 0, _ => rfl
  | n + 1, j => by show (Sl.un :: Z11 [] (mk0 n) (j + 1)).length = n + 1; rw [List.length_cons, Z63 n]
abbrev Z9g (X : Cx) (E : XE) : Prop := Takes X (fun c d σ H => E σ c d H)
def Bod (P : Program) (w : World) (K : PySem.W.Frag) (mg : Str -> Option Value) (base : Heap) (N : List Str) (qual : Str) (st : Stmt) (f : Addr) (k : Nat) (sp : Sp) : Prop :=
  ∀ (cdv : Value) (A : Around) (os : List Env) (s : Shared) (H : Hp) (vs : List V) (Q : VK) (E : XK), Room k (A.deeper (envOfC qual (defScope st) s.heap.objs.size f cdv)) -> Quiet (A.deeper (envOfC qual (defScope st) s.heap.objs.size f cdv)) -> sp vs H Q E ->
    ∃ t, PSs (cxOf (L2.CX P w) P w K mg base N qual (defScope st) f cdv A os s H E) (defBody st) t ∧ t { nx := fun _ H' => Q .non H', rt := Q } (L2.start N vs) H
theorem Zrf {qual : Str} {st : Stmt} {f : Addr} {N ps : List Str} {k n : Nat} {nw : Option (List Str)} {mf : List D -> R Unit D} (S : FnScope N ps (defScope st)) (hn : ps.length = n)
    (hbody : ∀ (cdv : Value) (A : Around) (outer : List Env) (s : Shared) (H : Hp) (E : XK), Room k (A.deeper (envOfC qual (defScope st) s.heap.objs.size f cdv)) -> Quiet (A.deeper (envOfC qual (defScope st) s.heap.objs.size f cdv)) ->
      Z9g (cxOf (L2.CX P w) P w K mg base N qual (defScope st) f cdv A outer s H E) (fun _ => E) -> (∀ σ, PassesAt (L2.CX P w) (cxOf (L2.CX P w) P w K mg base N qual (defScope st) f cdv A outer s H E) σ E) -> PassesOwn (model P w) (A.deeper (envOfC qual (defScope st) s.heap.objs.size f cdv)) (cxOf (L2.CX P w) P w K mg base N qual (defScope st) f cdv A outer s H E).env (cxOf (L2.CX P w) P w K mg base N qual (defScope st) f cdv A outer s H E).xe ->
      ∀ ds, ds.length = n -> AB (cxOf (L2.CX P w) P w K mg base N qual (defScope st) f cdv A outer s H E) K (fun _ => E) (kP N.length nw) (ds.map .fz ++ List.replicate (N.length - n) .un) (defBody st) (mf ds)) :
    Bod P w K mg base N qual st f k (spM K (mk0 n) nw (Lp mf)) := by
  intro cdv A outer s H vs Q E hr hG0 h
  obtain ⟨hl, F, ds, q, hdl, sr, hq⟩ := h
  rw [List.length_replicate] at hl hdl
  rw [Z80 hdl] at sr
  have tk : Takes (cxOf (L2.CX P w) P w K mg base N qual (defScope st) f cdv A outer s H E) (fun cls d _ H => E cls d H) := takes_of rfl rfl rfl rfl
  have key : tsC (cxOf (L2.CX P w) P w K mg base N qual (defScope st) f cdv A outer s H E) (defBody st) { nx := fun _ H' => Q .non H', rt := Q } (vs.map some ++ List.replicate (N.length - n) none) H := by
    refine (hbody cdv A outer s H E hr hG0 tk (fun σ => passAt tk σ) (passes_of rfl) ds hdl).2 ⟨F, H, q, Z33 vs⟩ F H (vs.map some ++ List.replicate (N.length - n) none) { nx := fun _ H' => Q .non H', rt := Q }
      (fun m => Zkp K ⟨F, H, q, Z33 vs⟩ F (vs.map some) E nw (mk0 n) Q (match m with
        | .ok d => .ok (d, [])
        | .ex x _ => .ex x []
        | .no => .no)) (sr.start _) ⟨fun z => z, fun y b hy c dd F' H' σ' e1 s1 x1 => hy c dd F' H' e1 (s1.unAll (Z6k n 0) (by rw [Z63, List.length_map]; exact hl)) x1, fun z hz F' H' σ' e1 s1 => ?_, fun z => z.elim, fun z => z.elim, fun d z hz v F' H' σ' e1 s1 r1 => ?_⟩ hq
    · cases nw with
      | none => exact hz .non F' H' e1 (s1.unAll (Z6k n 0) (by rw [Z63, List.length_map]; exact hl)) .non
      | some fs => exact hz.elim
    · refine hz v F' H' e1 (s1.unAll (Z6k n 0) (by rw [Z63, List.length_map]; exact hl)) ?_
      cases nw with
      | none => exact r1
      | some fs =>
        obtain ⟨p, S, h1, h2, h3, h4⟩ := r1
        exact ⟨p, S, h1, h2, h3, fun ft hf a ha z => by obtain ⟨i, t, d, fs, e, _⟩ := z; rw [Z6k n 0 i] at e; cases e⟩
  obtain ⟨t, h1, h2⟩ := key
  refine ⟨t, h1, ?_⟩
  have hst : L2.start N vs = vs.map some ++ List.replicate (N.length - n) none := by unfold L2.start; rw [hl]
  rw [hst]
  exact h2
theorem okP {x qual : Str} {st : Stmt} {f : Addr} {fd : FuncData} {N ps : List Str} {k n : Nat} {nw : Option (List Str)} {mf : List D -> R Unit D} (Fn : Fun K x qual st f fd) (S : FnScope N ps (defScope st)) (hn : ps.length = n)
    (hbody : ∀ (cdv : Value) (A : Around) (outer : List Env) (s : Shared) (H : Hp) (E : XK), Room k (A.deeper (envOfC qual (defScope st) s.heap.objs.size f cdv)) -> Quiet (A.deeper (envOfC qual (defScope st) s.heap.objs.size f cdv)) ->
      Z9g (cxOf (L2.CX P w) P w K mg base N qual (defScope st) f cdv A outer s H E) (fun _ => E) -> (∀ σ, PassesAt (L2.CX P w) (cxOf (L2.CX P w) P w K mg base N qual (defScope st) f cdv A outer s H E) σ E) -> PassesOwn (model P w) (A.deeper (envOfC qual (defScope st) s.heap.objs.size f cdv)) (cxOf (L2.CX P w) P w K mg base N qual (defScope st) f cdv A outer s H E).env (cxOf (L2.CX P w) P w K mg base N qual (defScope st) f cdv A outer s H E).xe ->
      ∀ ds, ds.length = n -> AB (cxOf (L2.CX P w) P w K mg base N qual (defScope st) f cdv A outer s H E) K (fun _ => E) (kP N.length nw) (ds.map .fz ++ List.replicate (N.length - n) .un) (defBody st) (mf ds)) :
    FnG P w K mg base (L2.CX P w) (k + 1) f fd ps (spM K (mk0 n) nw (Lp mf)) := by
  exact okGX Fn S (fun vs H Q E h => h.1.trans (by rw [List.length_replicate]; exact hn.symm)) (Zrf (ps := ps) S hn hbody)
theorem Zl0 {qual : Str} {st : Stmt} {f : Addr} {N ps : List Str} {k n m : Nat} {fs : List Str} {mf : List D -> R Unit (D × D)} (S : FnScope N ps (defScope st)) (hn : ps.length = n + 1) (hm : N.length = m + 1)
    (hbody : ∀ (cdv : Value) (A : Around) (outer : List Env) (s : Shared) (H : Hp) (E : XK), Room k (A.deeper (envOfC qual (defScope st) s.heap.objs.size f cdv)) -> Quiet (A.deeper (envOfC qual (defScope st) s.heap.objs.size f cdv)) ->
      Z9g (cxOf (L2.CX P w) P w K mg base N qual (defScope st) f cdv A outer s H E) (fun _ => E) -> (∀ σ, PassesAt (L2.CX P w) (cxOf (L2.CX P w) P w K mg base N qual (defScope st) f cdv A outer s H E) σ E) -> PassesOwn (model P w) (A.deeper (envOfC qual (defScope st) s.heap.objs.size f cdv)) (cxOf (L2.CX P w) P w K mg base N qual (defScope st) f cdv A outer s H E).env (cxOf (L2.CX P w) P w K mg base N qual (defScope st) f cdv A outer s H E).xe ->
      ∀ o ds, ds.length = n -> AB (cxOf (L2.CX P w) P w K mg base N qual (defScope st) f cdv A outer s H E) K (fun _ => E) (kR0 m fs) (.ow (some 0) o fs :: (ds.map .fz ++ List.replicate (N.length - (n + 1)) .un)) (defBody st) (mf (o :: ds))) :
    Bod P w K mg base N qual st f k (spM K (some fs :: mk0 n) none (L1e mf)) := by
  intro cdv A outer s H vs Q E hr hG0 h
  obtain ⟨hl, F, ds0, q, hdl, sr, hq⟩ := h
  cases ds0 with
  | nil => cases hdl
  | cons o ds =>
    rw [List.length_cons, List.length_replicate] at hl
    have hdl : ds.length = n := by simpa using hdl
    have hargs : Z3h (o :: ds) (some fs :: mk0 n) 0 = .ow (some 0) o fs :: ds.map .fz := by
      show .ow (some 0) o fs :: Z3h ds (mk0 n) 1 = _
      rw [Z80 hdl]
    rw [hargs] at sr
    have tk : Takes (cxOf (L2.CX P w) P w K mg base N qual (defScope st) f cdv A outer s H E) (fun cls d _ H => E cls d H) := takes_of rfl rfl rfl rfl
    have fin : ∀ {F' H' : Hp} {σ' : L2.St} {o' : D}, SR K ⟨F, H, q, Z33 vs⟩ F' H' σ' (.ow (some 0) o' fs :: List.replicate m .un) -> SR K ⟨F, H, q, Z33 vs⟩ F' H' (vs.map some) (Z11 [o'] (some fs :: mk0 n) 0) := fun {F' H' σ' o'} r => by
      obtain ⟨ft', hf'⟩ := r.own
      obtain ⟨p, g1, g2, g3, g4⟩ := hf'.ow 0 (some 0) o' fs rfl
      have g5 : Z33 vs 0 = some p := g4 0 rfl
      have hv0 : (vs.map some)[0]? = some (some (V.ref p)) := by
        unfold Z33 at g5
        split at g5
        · rename_i e
          cases g5
          rw [List.getElem?_map, e]
          rfl
        · cases g5
      have hu : ∀ j, j ≠ 0 -> fget (Z11 [o'] (some fs :: mk0 n) 0) j = .un := fun j hj => by
        cases j with
        | zero => exact absurd rfl hj
        | succ j => exact Z6k n 1 j
      refine ⟨r.ex, r.ex0, r.keep, r.newF, ?_, fun j d h => ?_, fun j a d gs h => ?_, ft', fun j t' d f' h => ?_, fun j k t1 t2 d1 d2 f1 f2 hjk e1 e2 => ?_⟩
      · show _ = (Sl.ow (some 0) o' fs :: Z11 [] (mk0 n) 1).length
        rw [List.length_map, List.length_cons, Z63]; exact hl
      · cases j with
        | zero => cases h
        | succ j => rw [hu _ (Nat.succ_ne_zero j)] at h; cases h
      · cases j with
        | zero => cases h
        | succ j => rw [hu _ (Nat.succ_ne_zero j)] at h; cases h
      · cases j with
        | zero => cases h; exact ⟨p, hv0, g2, g3, g4⟩
        | succ j => rw [hu _ (Nat.succ_ne_zero j)] at h; cases h
      · cases j with
        | succ j => rw [hu _ (Nat.succ_ne_zero j)] at e1; cases e1
        | zero =>
          cases k with
          | zero => exact absurd rfl hjk
          | succ k => rw [hu _ (Nat.succ_ne_zero k)] at e2; cases e2
    have key : tsC (cxOf (L2.CX P w) P w K mg base N qual (defScope st) f cdv A outer s H E) (defBody st) { nx := fun _ H' => Q .non H', rt := Q } (vs.map some ++ List.replicate (N.length - (n + 1)) none) H := by
      refine (hbody cdv A outer s H E hr hG0 tk (fun σ => passAt tk σ) (passes_of rfl) o ds hdl).2 ⟨F, H, q, Z33 vs⟩ F H (vs.map some ++ List.replicate (N.length - (n + 1)) none) { nx := fun _ H' => Q .non H', rt := Q }
        (fun m => Zkp K ⟨F, H, q, Z33 vs⟩ F (vs.map some) E none (some fs :: mk0 n) Q (match m with
          | .ok (d, o) => .ok (d, [o])
          | .ex x _ => .ex x []
          | .no => .no)) (sr.start _) ⟨fun z => z, fun y b hy c dd F' H' σ' e1 s1 x1 => hy c dd F' H' e1 (s1.unAll (fun j => by cases j with | zero => rfl | succ j => exact Z6k n 1 j) (by show _ = (Sl.un :: Z11 [] (mk0 n) 1).length; rw [List.length_map, List.length_cons, Z63]; exact hl)) x1, fun z hz F' H' σ' e1 s1 => hz .non F' H' e1 (fin s1) .non, fun z => z.elim, fun z => z.elim, fun d z hz v F' H' σ' e1 s1 r1 => hz v F' H' e1 (fin s1) r1⟩ hq
    obtain ⟨t, h1, h2⟩ := key
    refine ⟨t, h1, ?_⟩
    have hst : L2.start N vs = vs.map some ++ List.replicate (N.length - (n + 1)) none := by unfold L2.start; rw [hl]
    rw [hst]
    exact h2
theorem okR0 {x qual : Str} {st : Stmt} {f : Addr} {fd : FuncData} {N ps : List Str} {k n m : Nat} {fs : List Str} {mf : List D -> R Unit (D × D)} (Fn : Fun K x qual st f fd) (S : FnScope N ps (defScope st)) (hn : ps.length = n + 1) (hm : N.length = m + 1)
    (hbody : ∀ (cdv : Value) (A : Around) (outer : List Env) (s : Shared) (H : Hp) (E : XK), Room k (A.deeper (envOfC qual (defScope st) s.heap.objs.size f cdv)) -> Quiet (A.deeper (envOfC qual (defScope st) s.heap.objs.size f cdv)) ->
      Z9g (cxOf (L2.CX P w) P w K mg base N qual (defScope st) f cdv A outer s H E) (fun _ => E) -> (∀ σ, PassesAt (L2.CX P w) (cxOf (L2.CX P w) P w K mg base N qual (defScope st) f cdv A outer s H E) σ E) -> PassesOwn (model P w) (A.deeper (envOfC qual (defScope st) s.heap.objs.size f cdv)) (cxOf (L2.CX P w) P w K mg base N qual (defScope st) f cdv A outer s H E).env (cxOf (L2.CX P w) P w K mg base N qual (defScope st) f cdv A outer s H E).xe ->
      ∀ o ds, ds.length = n -> AB (cxOf (L2.CX P w) P w K mg base N qual (defScope st) f cdv A outer s H E) K (fun _ => E) (kR0 m fs) (.ow (some 0) o fs :: (ds.map .fz ++ List.replicate (N.length - (n + 1)) .un)) (defBody st) (mf (o :: ds))) :
    FnG P w K mg base (L2.CX P w) (k + 1) f fd ps (spM K (some fs :: mk0 n) none (L1e mf)) := by
  exact okGX Fn S (fun vs H Q E h => h.1.trans (by rw [List.length_cons, List.length_replicate]; exact hn.symm)) (Zl0 (ps := ps) S hn hm hbody)
end
end DM
namespace DM
open PySem PySem.Spec PyProof.Rows L2 DL
def intV : Value -> Bool
  | .int _ _ => true
  | _ => false
def intL (o : Obj) : Bool := match o.data with
  | .seq its _ => match its.toList.all intV with
    | true => match o.cls with
      | .type t => t == "list"
      | _ => false
    | false => false
  | _ => false
def noL : PySem.W.Frag -> Bool
  | [] => true
  | p :: r => match intL p.2 with
    | true => false
    | false => noL r
theorem Zem {K : PySem.W.Frag} {a : Addr} {o : Obj} (h : noL K = true) (l : K.lookup a = some o) : intL o = false := by
  induction K with
  | nil => cases l
  | cons p r ih =>
    unfold noL at h
    split at h
    · cases h
    · rename_i hp
      obtain ⟨b, x⟩ := p
      simp only [List.lookup] at l
      split at l
      · cases l; exact hp
      · exact ih h l
theorem Za1 : ∀ {ns : List Int} {us : List Value}, Vals (ns.map V.int) us -> us.all intV = true
  | [], _, .nil => rfl
  | n :: ns, _, .cons ⟨t, e⟩ h => by
    subst e
    rw [List.all_cons, Za1 h]; rfl
theorem Zof {K : PySem.W.Frag} {H : Hp} {a : Addr} {ns : List Int} (h : noL K = true) (s : SqL K H a (ns.map V.int)) : Rd H a (.lst (ns.map V.int)) := by
  rcases s with s | ⟨o, its, n, l, c, _, d, _, v⟩
  · exact s
  · have := Zem h l
    unfold intL at this
    rw [d, c] at this
    simp only [Za1 v] at this
    cases this
theorem Zf7 (K : PySem.W.Frag) (F : Hp) : ∀ ns : List Int, DrA K F (ns.map V.int) (ns.map D.int)
  | [] => .nil
  | n :: ns => .cons (.int n) (Zf7 K F ns)
theorem Zpj {K : PySem.W.Frag} {H : Hp} {a : Addr} {ns : List Int} {mf : List D -> R Unit D} (s : SqL K H a (ns.map V.int)) (h : noL K = true) (hm : mf [.lst (ns.map .int)] = .ok (.bl true)) : spM K (mk0 1) none (Lp mf) [.ref a] H (fun v _ => v = .bl true) fun _ _ _ => False := by
  refine ⟨rfl, H, [.lst (ns.map .int)], fun _ => False, rfl, ?_, ?_⟩
  · exact SR.args (ds := [.lst (ns.map .int)]) (Ex.refl H) (.cons (.lst (Zof h s) (Zf7 K H ns)) .nil) rfl rfl
  · unfold Lp
    rw [hm]
    intro v F' H' _ _ r
    have r : Dr K F' v (.bl true) := r
    cases r
    rfl
theorem Zjl {K : PySem.W.Frag} {a : Addr} {vs : List Value} {ns : List Int} (h : noL K = true) (hi : IntsAre vs ns) {hp : Heap} (X : K.In hp) (ha : hp.get? a = some { cls := .type "list", data := .seq vs.toArray }) : K.lookup a = none := by
  cases e : K.lookup a with
  | none => rfl
  | some o =>
    have q := Zem h e
    have q2 := X a o e
    rw [ha] at q2
    cases q2
    unfold intL at q
    have v := Za1 (vals_ints hi)
    simp only [List.toList_toArray, v] at q
    cases q
end DM
namespace DM
open PySem PySem.Spec PyProof.Rows L2 DL
theorem Zcr : ∀ {env : Fm} {i : Nat} {x : Sl}, fget env i = x -> x ≠ .un -> fput env i x = env
  | [], _, _, h, n => absurd h.symm n
  | _ :: _, 0, _, h, _ => by cases h; rfl
  | y :: xs, i + 1, x, h, n => by show y :: _ = y :: _; rw [Zcr (env := xs) (i := i) h n]
theorem Znx : ∀ {env : Fm} {n : Nat}, env.length = n -> Wk env (List.replicate n .un)
  | [], 0, _ => .nil
  | _ :: xs, n + 1, h => .d (Znx (by simpa using h))
theorem Ziy {env xF : Fm} {i : Nat} {tag : Option Nat} {fs : List Str} (h : ∀ w, Wk (fput env i (.ow tag w fs)) xF) : Wk (fput env i .un) xF := by
  have hu : fget xF i = .un := by
    rcases (h .non).get i with z | z
    · rcases (h (.bl true)).get i with z2 | z2
      · rcases Z7p env (i := i) (.ow tag .non fs) with q | q
        · rcases Z7p env (i := i) (.ow tag (.bl true) fs) with q2 | q2
          · rw [q] at z; rw [q2, z] at z2; cases z2
          · rw [q2] at z2; exact z2
        · rw [q] at z; exact z
      · exact z2
    · exact z
  have := (h .non).put i .un hu
  rw [Z75] at this
  exact this
section
variable (K : PySem.W.Frag) (E : XE) {β γ b a : Type} (xF : Fm) (xb : β) (env : Fm) (i : Nat) (tag : Option Nat) (fs : List Str) (w : D)
def AFJ (t : TB b) (rel : Bs -> Hp -> Hp -> L2.St -> b -> a -> Prop) (c : (a -> D -> R β γ) -> R β γ) : Prop :=
  ∀ B F H σ Q k (G : R β γ -> Prop), SR K B F H σ (fput env i (.ow tag w fs)) -> (∀ w, Wk (fput env i (.ow tag w fs)) xF) -> Gx K B E F σ xF xb G ->
    (∀ d w' v F' H', G (k d w') -> Ex F F' -> SR K B F' H' σ (fput env i (.ow tag w' fs)) -> rel B F' H' σ v d -> Q v H') -> G (c k) -> t σ H Q
end
section
variable (X : Cx) (K : PySem.W.Frag) (E : XE) {β γ : Type} (xF : Fm) (xb : β) (env : Fm) (i : Nat) (tag : Option Nat) (fs : List Str) (w : D)
def AF (e : Expr) (c : (D -> D -> R β γ) -> R β γ) : Prop := X.K = K ∧ AFJ K E xF xb env i tag fs w (teC X e) (fun _ F _ _ v d => Dr K F v d) c
def AFT (e : Expr) (c : (Bool -> D -> R β γ) -> R β γ) : Prop := X.K = K ∧ AFJ K E xF xb env i tag fs w (ttC X e) (fun _ _ _ _ v d => v = d) c
def AFW (e : Expr) (c : (Bool -> D -> R β γ) -> R β γ) : Prop := X.K = K ∧ AFJ K E xF xb env i tag fs w (twC X e) (fun _ _ _ _ v d => v = d) c
def AFA (es : List Expr) (c : (List D -> D -> R β γ) -> R β γ) : Prop := X.K = K ∧ AFJ K E xF xb env i tag fs w (taC X es) (fun _ F _ _ vs ds => DrA K F vs ds) c
end
section
variable {X : Cx} {K : PySem.W.Frag} {E : XE} {β γ : Type} {xF : Fm} {xb : β} {env : Fm} {i : Nat} {tag : Option Nat} {fs : List Str} {w : D} {e a b c : Expr} {es : List Expr} {pos p : Pos} {c1 : (D -> D -> R β γ) -> R β γ} {c2 : D -> (D -> D -> R β γ) -> R β γ}
theorem AJ.lift {b a : Type} {t : TB b} {rel : Bs -> Hp -> Hp -> L2.St -> b -> a -> Prop} {c : (a -> R β γ) -> R β γ} (h : AJ K E xF xb (fput env i (.ow tag w fs)) t rel c) : AFJ K E xF xb env i tag fs w t rel (fun k => c fun d => k d w) := fun B F H σ Q k G s wk gx hk hG =>
  h B F H σ Q _ G s (wk w) gx (fun d v F' H' g e eh s' r => hk d w v F' H' g e s' r) hG
theorem AE.lift {c : (D -> R β γ) -> R β γ} (h : AE X K E xF xb (fput env i (.ow tag w fs)) e c) : AF X K E xF xb env i tag fs w e (fun k => c fun d => k d w) := ⟨h.1, AJ.lift h.2⟩
theorem AA.lift {c : (List D -> R β γ) -> R β γ} (h : AA X K E xF xb (fput env i (.ow tag w fs)) es c) : AFA X K E xF xb env i tag fs w es (fun k => c fun d => k d w) := ⟨h.1, AJ.lift h.2⟩
theorem Zfe {r : R2} {g : D -> D -> Option D} (hg : OpD K r g) (ha : AF X K E xF xb env i tag fs w a c1) (hb : ∀ w, AF X K E xF xb env i tag fs w b (c2 w)) :
    AFJ K E xF xb env i tag fs w (tOp r (teC X a) (teC X b)) (fun _ F _ _ v d => Dr K F v d) (fun (k : D -> D -> R β γ) => c1 fun x w1 => c2 w1 fun y w2 => R.lft (g x y) fun z => k z w2) := fun B F H σ Q k G s wk gx hk hG =>
  ha.2 B F H σ _ _ G s wk gx (fun x w1 v F1 H1 h1 e1 s1 d1 => (hb w1).2 B F1 H1 σ _ _ G s1 wk (gx.mono e1) (fun y w2 u F2 H2 h2 e2 s2 d2 => by
    cases hc : g x y with
    | none => rw [hc] at h2; exact (gx.no h2).elim
    | some z =>
      rw [hc] at h2
      exact hg B F2 H2 σ _ v u x y z Q s2 (.inl (d1.mono e2)) (.inl d2) hc fun v' F' H' e' _ s' d' => hk z w2 v' F' H' h2 (e1.trans (e2.trans e')) s' d') h1) hG
theorem Zrs {op : Operator} {r : R2} {g : D -> D -> Option D} (ho : OpR X (binaryOp op) r) (hg : OpD K r g) (ha : AF X K E xF xb env i tag fs w a c1) (hb : ∀ w, AF X K E xF xb env i tag fs w b (c2 w)) : AF X K E xF xb env i tag fs w (.BinOp a op b pos) (fun (k : D -> D -> R β γ) => c1 fun x w1 => c2 w1 fun y w2 => R.lft (g x y) fun z => k z w2) :=
  ⟨ha.1, fun B F H σ Q k G s wk gx hk hG => ⟨_, pe_op ho pe_C pe_C, Zfe hg ha hb B F H σ Q k G s wk gx hk hG⟩⟩
theorem Zqo {op : CmpOp} {r : R2} {g : D -> D -> Option D} (ho : OpR X (compareOp op) r) (hg : OpD K r g) (ha : AF X K E xF xb env i tag fs w a c1) (hb : ∀ w, AF X K E xF xb env i tag fs w b (c2 w)) (hm : behindInMarks op b = false) : AF X K E xF xb env i tag fs w (.Compare a [op] [b] pos) (fun (k : D -> D -> R β γ) => c1 fun x w1 => c2 w1 fun y w2 => R.lft (g x y) fun z => k z w2) :=
  ⟨ha.1, fun B F H σ Q k G s wk gx hk hG => ⟨_, pe_cmpR ho pe_C pe_C hm, Zfe hg ha hb B F H σ Q k G s wk gx hk hG⟩⟩
theorem Zrt (ha : AF X K E xF xb env i tag fs w a c1) (hb : ∀ w, AF X K E xF xb env i tag fs w b (c2 w)) (hs : PlainIx b := by exact fun _ _ => rfl) : AF X K E xF xb env i tag fs w (.Subscript a b pos) (fun (k : D -> D -> R β γ) => c1 fun x w1 => c2 w1 fun y w2 => R.lft (ixG x y) fun z => k z w2) :=
  ⟨ha.1, fun B F H σ Q k G s wk gx hk hG => ⟨_, pe_ix ix_seq pe_C pe_C hs, Zfe (ha.1 ▸ Zp3) ha hb B F H σ Q k G s wk gx hk hG⟩⟩
theorem Zkj {t : TE} (h : AFJ K E xF xb env i tag fs w t (fun _ F _ _ v d => Dr K F v d) c1) : AFJ K E xF xb env i tag fs w (tTest t) (fun _ _ _ _ v d => v = d) (fun (k : Bool -> D -> R β γ) => c1 fun d w1 => R.asB d fun b => k b w1) := fun B F H σ Q k G s wk gx hk hG =>
  h B F H σ _ _ G s wk gx (fun d w1 v F1 H1 h1 e1 s1 d1 => by
    cases d <;> first | exact (gx.no h1).elim | skip
    cases d1
    exact ⟨_, rfl, hk _ w1 _ F1 H1 h1 e1 s1 rfl⟩) hG
theorem Ze5 {op : CmpOp} {r : R2} {g : D -> D -> Option D} (ho : OpR X (compareOp op) r) (hg : OpD K r g) (ha : AF X K E xF xb env i tag fs w a c1) (hb : ∀ w, AF X K E xF xb env i tag fs w b (c2 w)) (hm : behindInMarks op b = false) : AFT X K E xF xb env i tag fs w (.Compare a [op] [b] pos) (fun (k : Bool -> D -> R β γ) => c1 fun x w1 => c2 w1 fun y w2 => R.lft (g x y) fun z => R.asB z fun b => k b w2) :=
  ⟨ha.1, fun B F H σ Q k G s wk gx hk hG => ⟨_, pt_cmpR ho pe_C pe_C hm, Zkj (Zfe hg ha hb) B F H σ Q k G s wk gx hk hG⟩⟩
def R.bind2 {β α γ : Type} (m : R β (α × D)) (k : α -> D -> R β γ) : R β γ := match m with
  | .ok (a, w) => k a w
  | .ex x b => .ex x b
  | .no => .no
def Gd2 {β α γ : Type} (G : R β γ -> Prop) (k : α -> D -> R β γ) : R β (α × D) -> Prop := fun m => G (R.bind2 m k)
theorem Gd2.gx {B : Bs} {F : Hp} {σ : L2.St} {α : Type} {G : R β γ -> Prop} {k : α -> D -> R β γ} (g : Gx K B E F σ xF xb G) : Gx K B E F σ xF xb (Gd2 G k) := ⟨g.no, g.ex⟩
theorem AFW.at {ct : (Bool -> D -> R β γ) -> R β γ} (h : AFW X K E xF xb env i tag fs w e ct) : AFT X K E xF xb env i tag fs w e ct :=
  ⟨h.1, fun B F H σ Q k G s wk gx hk hG => ⟨_, PW.pt pw_C, h.2 B F H σ Q k G s wk gx hk hG⟩⟩
theorem Zru {ct : (Bool -> D -> R β (D × D)) -> R β (D × D)} {d1 d2 : D -> (D -> D -> R β (D × D)) -> R β (D × D)} (h : AFT X K E xF xb env i tag fs w c ct) (ha : ∀ w, AF X K E xF xb env i tag fs w a (d1 w)) (hb : ∀ w, AF X K E xF xb env i tag fs w b (d2 w)) :
    AF X K E xF xb env i tag fs w (.IfExp c a b pos) (fun (k : D -> D -> R β γ) => R.bind2 (ct fun x w1 => if x then d1 w1 fun d w => .ok (d, w) else d2 w1 fun d w => .ok (d, w)) k) :=
  ⟨h.1, fun B F H σ Q k G s wk gx hk hG => ⟨_, pe_ifExp pt_C pe_C pe_C, h.2 B F H σ _ _ (Gd2 G k) s wk (Gd2.gx gx) (fun d w1 v F1 H1 h1 e1 s1 r1 => by
    subst r1
    cases v with
    | true => exact iteT ((ha w1).2 B F1 H1 σ _ (fun b w => .ok (b, w)) (Gd2 G k) s1 wk ((Gd2.gx gx).mono e1) (fun d w2 v F2 H2 h2 e2 s2 d2 => hk d w2 v F2 H2 h2 (e1.trans e2) s2 d2) h1)
    | false => exact iteF ((hb w1).2 B F1 H1 σ _ (fun b w => .ok (b, w)) (Gd2 G k) s1 wk ((Gd2.gx gx).mono e1) (fun d w2 v F2 H2 h2 e2 s2 d2 => hk d w2 v F2 H2 h2 (e1.trans e2) s2 d2) h1)) hG⟩⟩
theorem Z1p {cs : D -> (List D -> D -> R β γ) -> R β γ} (ha : AF X K E xF xb env i tag fs w e c1) (hr : ∀ w, AFA X K E xF xb env i tag fs w es (cs w)) (hs : starEach (e :: es) X.env = (false, eval e X.env) :: starEach es X.env := by rfl) : AFA X K E xF xb env i tag fs w (e :: es) (fun (k : List D -> D -> R β γ) => c1 fun d w1 => cs w1 fun ds w2 => k (d :: ds) w2) :=
  ⟨ha.1, fun B F H σ Q k G s wk gx hk hG => ⟨_, pa_cons pe_C pa_C hs, ha.2 B F H σ _ _ G s wk gx (fun d w1 v F1 H1 h1 e1 s1 d1 => (hr w1).2 B F1 H1 σ _ _ G s1 wk (gx.mono e1) (fun ds w2 vs F2 H2 h2 e2 s2 d2 =>
    hk (d :: ds) w2 (v :: vs) F2 H2 h2 (e1.trans e2) s2 (.cons (d1.mono e2) d2)) h1) hG⟩⟩
theorem Zqn {cs : (List D -> D -> R β γ) -> R β γ} (h : AFA X K E xF xb env i tag fs w es cs) : AF X K E xF xb env i tag fs w (.List es pos) (fun (k : D -> D -> R β γ) => cs fun ds w1 => R.few ds fun ds => k (.lst ds) w1) :=
  ⟨h.1, fun B F H σ Q k G s wk gx hk hG => ⟨_, pe_lst pa_C, h.2 B F H σ _ _ G s wk gx (fun ds w1 vs F1 H1 h1 e1 s1 d1 => by
    unfold R.few at h1
    split at h1
    · rename_i hz
      refine ⟨by rw [d1.length]; exact of_decide_eq_true hz, fun p hp => ?_⟩
      obtain ⟨s2, n2⟩ := s1.newN hp (Do.lst d1)
      obtain ⟨F5, e5, d5, s5⟩ := s2.frzN n2
      exact hk _ w1 _ F5 _ h1 (e1.trans e5) s5 d5
    · exact (gx.no h1).elim) hG⟩⟩
theorem DrA.dh {F H : Hp} : ∀ {vs : List V} {ds : List D}, DrA K F vs ds -> DhA K F H vs ds
  | _, _, .nil => trivial
  | _, _, .cons h t => ⟨.inl h, DrA.dh t⟩
theorem Zkk {r : List V -> Hp -> VK -> Prop} {g : List D -> Option D} {cs : (List D -> D -> R β γ) -> R β γ} (hg : Z8c K r g) (ha : AFA X K E xF xb env i tag fs w es cs) :
    AFJ K E xF xb env i tag fs w (tCB r (taC X es)) (fun _ F _ _ v d => Dr K F v d) (fun (k : D -> D -> R β γ) => cs fun ds w1 => R.lft (g ds) fun z => k z w1) := fun B F H σ Q k G s wk gx hk hG =>
  ha.2 B F H σ _ _ G s wk gx (fun ds w1 vs F1 H1 h1 e1 s1 d1 => by
    cases hc : g ds with
    | none => rw [hc] at h1; exact (gx.no h1).elim
    | some z =>
      rw [hc] at h1
      exact hg B F1 H1 σ _ vs ds z Q s1 d1.dh hc fun v' F' H' e' _ s' d' => hk z w1 v' F' H' h1 (e1.trans e') s' d') hG
section
variable {r : List V -> Hp -> VK -> Prop} {g : List D -> Option D} {cs : (List D -> D -> R β γ) -> R β γ} {x : Str} {id T : String}
theorem Zkl (hc : CallR X (.type T) r) (hd : Z8c K r g) (hv : bootBuiltins x = some (.type T)) (hm : X.mg x = none) (hg : Gl X x) (ha : AFA X K E xF xb env i tag fs w (e :: es) cs) (hn : x ≠ "__name__" := by decide) (hdb : (x == ("__debug__" : Str)) = false := by decide)
    (he : starEach (e :: es) X.env = (false, eval e X.env) :: starEach es X.env := by rfl) (hpl : (backTo pos (starEach es X.env)).any (·.1) = false := by rfl) : AF X K E xF xb env i tag fs w (.Call (.Name x p) (e :: es) [] pos) (fun (k : D -> D -> R β γ) => cs fun ds w1 => R.lft (g ds) fun z => k z w1) :=
  ⟨ha.1, fun B F H σ Q k G s wk gx hk hG => ⟨_, pe_callTy hc hg hm hv pa_C hn hdb he hpl, Zkk hd ha B F H σ Q k G s wk gx hk hG⟩⟩
theorem Zno {n k : Nat} {mf : List D -> R Unit D} (F : Dfn X.prog X.w K X.mg X.base k x (mk0 n) none (Lp mf)) (hl : ∀ ds, mf ds ≠ .no -> ds.length = n) (ha : AFA X K E xF xb env i tag fs w (e :: es) cs) (hr : Room k X.A) (hG : Quiet X.A) (hx : ∀ σ, PassesAt (L2.CX X.prog X.w) X σ (E σ)) (hg : Gl X x)
    (hdb : (x == ("__debug__" : Str)) = false := by decide) (he : starEach (e :: es) X.env = (false, eval e X.env) :: starEach es X.env := by rfl) (hpl : (backTo pos (starEach es X.env)).any (·.1) = false := by rfl) :
    AF X K E xF xb env i tag fs w (.Call (.Name x p) (e :: es) [] pos) (fun (k : D -> D -> R β γ) => cs fun ds w1 => R.call (mf ds) xb fun z => k z w1) := by
  have hK := ha.1
  subst hK
  obtain ⟨f, fd, ps, h1, h2, h3, h4⟩ := F.ex
  exact ⟨rfl, fun B F H σ Q k G s wk gx hk hG' => ⟨_, Z5p h1 hr hG hg h2 h3 h4 .nil hx pa_C hdb he hpl, ha.2 B F H σ _ _ G s wk gx (fun ds w1 vs F1 H1 g1 e1 s1 d1 => by
    show spM X.K (mk0 n) none (Lp mf) (vs ++ []) H1 Q (E σ)
    rw [List.append_nil]
    exact Z55 (nw := none) s1 (wk w1) (gx.mono e1) d1 (hl ds) (fun d v F' H' g e2 _ s2 r2 => hk d w1 v F' H' g (e1.trans e2) s2 r2) g1) hG'⟩⟩
theorem Z3n {n k : Nat} {mf : List D -> R Unit (D × D)} {y : Str} {p2 : Pos} (F : Dfn X.prog X.w K X.mg X.base k x (some fs :: mk0 n) none (L1e mf)) (hl : ∀ o ds, mf (o :: ds) ≠ .no -> ds.length = n) (ha : AFA X K E xF xb env i tag fs w es cs) (hltB : Nat.blt i env.length = true) (hr : Room k X.A) (hG : Quiet X.A) (hx : ∀ σ, PassesAt (L2.CX X.prog X.w) X σ (E σ)) (hg : Gl X x)
    (hN : X.N[i]? = some y := by rfl) (hv : Vis X.env.scope y := by first | exact Or.inl rfl | exact Or.inr (Or.inl rfl) | exact Or.inr (Or.inr rfl)) (hd : (y == ("__debug__" : Str)) = false := by decide) (hcd : (y == ("__classdict__" : Str)) = false := by decide)
    (hdb : (x == ("__debug__" : Str)) = false := by decide) (he : starEach (.Name y p2 :: es) X.env = (false, eval (.Name y p2) X.env) :: starEach es X.env := by rfl) (hpl : (backTo pos (starEach es X.env)).any (·.1) = false := by rfl) :
    AF X K E xF xb env i tag fs w (.Call (.Name x p) (.Name y p2 :: es) [] pos) (fun (k : D -> D -> R β γ) => cs fun ds w1 => R.call1e (mf (w1 :: ds)) xb k) := by
  have hK := ha.1
  subst hK
  obtain ⟨f, fd, ps, h1, h2, h3, h4⟩ := F.ex
  refine ⟨rfl, fun B F H σ Q k G s wk gx hk hG' => ⟨_, Z5p h1 hr hG hg h2 h3 h4 .nil hx (pa_cons (pe_var hN hv hd hcd) pa_C he) hdb he hpl, ?_⟩⟩
  have hlt : i < env.length := Nat.blt_eq.mp hltB
  have hq : ∀ {w : D} {F H : Hp}, SR X.K B F H σ (fput env i (.ow tag w fs)) -> ∃ q, σ[i]? = some (some (.ref q)) := fun {w F H} s => by
    obtain ⟨ft, hf⟩ := s.own
    obtain ⟨q, g1, _⟩ := hf.ow i tag w fs (Z1o hlt)
    exact ⟨q, g1⟩
  obtain ⟨q, g0⟩ := hq s
  refine ⟨_, g0, ha.2 B F H σ _ _ G s wk gx (fun ds w1 vs F1 H1 g1 e1 s1 d1 => ?_) hG'⟩
  show spM X.K (some fs :: mk0 n) none (L1e mf) ((.ref q :: vs) ++ []) H1 Q (E σ)
  rw [List.append_nil]
  have hno : mf (w1 :: ds) ≠ .no := fun z => by rw [z] at g1; exact gx.no g1
  refine Zog s1 (Z1o hlt) g0 d1 (hl w1 ds hno) (fun d os hm => ?_) (fun y os hm => ?_) (fun z => ?_)
  · unfold L1e at hm
    cases hq : mf (w1 :: ds) with
    | no => exact absurd hq hno
    | ex _ _ => rw [hq] at hm; cases hm
    | ok r =>
      obtain ⟨d', o'⟩ := r
      rw [hq] at hm g1
      cases hm
      refine ⟨o', rfl, fun v F' H' e2 s2 d2 => hk d o' v F' H' g1 (e1.trans e2) ?_ d2⟩
      rw [Z75] at s2
      exact s2
  · unfold L1e at hm
    cases hq : mf (w1 :: ds) with
    | no => exact absurd hq hno
    | ok _ => rw [hq] at hm; cases hm
    | ex y' u =>
      rw [hq] at hm g1
      cases hm
      refine .inr ⟨rfl, fun c dd F' H' e2 s2 x2 => gx.ex y g1 c dd F' H' (e1.trans e2) ?_ x2⟩
      rw [Z75] at s2
      exact s2.wk (Ziy wk)
  · unfold L1e at z
    cases hq : mf (w1 :: ds) with
    | no => exact hno hq
    | ok _ => rw [hq] at z; cases z
    | ex _ _ => rw [hq] at z; cases z
end
end
section
variable {X : Cx} {K : PySem.W.Frag} {E : XE} {β ω : Type} {κ : Kt β ω} {env : Fm} {pos : Pos} {rest : List Stmt} {tag : Option Nat} {fs : List Str} {w : D} {e : Expr} {c : (D -> D -> R β ω) -> R β ω}
theorem Gs.afj {b a : Type} {t : TB b} {rel : Bs -> Hp -> Hp -> L2.St -> b -> a -> Prop} {c : (a -> D -> R β ω) -> R β ω} {i : Nat} {xb : β} (h : AFJ K E (κ.fx xb) xb env i tag fs w t rel c) (hi : fget env i = .ow tag w fs) (hx : ∀ w, Wk (fput env i (.ow tag w fs)) (κ.fx xb)) {B : Bs} {F H : Hp} {σ : L2.St} {Dn : Ends} {G : R β ω -> Prop} (sr : SR K B F H σ env) (gs : Gs K B E κ F Dn G) {k : a -> D -> R β ω} (hG : G (c k)) {Q : b -> Hp -> Prop}
    (hk : ∀ d w' v F' H', G (k d w') -> Ex F F' -> SR K B F' H' σ (fput env i (.ow tag w' fs)) -> rel B F' H' σ v d -> Q v H') : t σ H Q :=
  h B F H σ Q k G (by rw [Zcr hi (fun z => nomatch z)]; exact sr) hx (gs.gx xb) hk hG
theorem Z7u (i j : Nat) (hi : fget env i = .ow tag w fs) {x : Str} {p2 : Pos} {m : D -> D -> R β ω} (xb : β) (he : AF X K E (κ.fx xb) xb env i tag fs w e c) (hx : ∀ w, Wk (fput env i (.ow tag w fs)) (κ.fx xb)) (hr : ∀ d w, AB X K E κ (fput (fput env i (.ow tag w fs)) j (.fz d)) rest (m d w)) (hN : X.N.Nodup) (hl : Loc X.env.scope x) (hj : X.N[j]? = some x := by rfl)
    (hs : swapsWith e (some (.Name x p2)) pos.line X.env = pure false := by rfl) (hf : X.fn x = true ∨ X.env.scope.names.lookup x = some .local := by first | exact .inl rfl | exact .inr rfl | assumption) : AB X K E κ env (.Assign [.Name x p2] e pos :: rest) (c fun d w1 => m d w1) :=
  ⟨he.1, fun B F H σ Dn G sr gs hG => ⟨_, pss_cons (ps_set hN hj hl pe_C hs hf) ps_C, Gs.afj he.2 hi hx sr gs hG fun d w1 v F1 H1 h1 e1 s1 d1 => (hr d w1).2 B F1 H1 _ Dn G (s1.setF d1) (gs.mono e1) h1⟩⟩
theorem Znt (i : Nat) (hi : fget env i = .ow tag w fs) {tg : Expr} {own : List Nat} {m : D -> D -> R β ω} (xb : β) (he : AF X K E (κ.fx xb) xb env i tag fs w e c) (hx : ∀ w, Wk (fput env i (.ow tag w fs)) (κ.fx xb)) (hg : ∀ d w, AG X K own (fput env i (.ow tag w fs)) tg d (fun env' m' => AB X K E κ env' rest m') (m d w))
    (hs : swapsWithSole [tg] e pos.line X.env = pure false := by rfl) (hw : swappedStores [tg] e X.env = pure none := by rfl) (h1 : (assignEach [tg] X.env).map (·.2) = [assign tg X.env] := by rfl) : AB X K E κ env (.Assign [tg] e pos :: rest) (c fun d w1 => m d w1) :=
  ⟨he.1, fun B F H σ Dn G sr gs hG => ⟨_, pss_cons (ps_asg pe_C pg_C hs hw h1) ps_C, Gs.afj he.2 hi hx sr gs hG fun d w1 v F1 H1 g1 e1 s1 d1 => (hg d w1).2 B F1 H1 σ v _ G s1 d1 gs.no g1 fun env' m' σ' hy s' _ _ hG' => hy.2 B F1 H1 σ' Dn G s' (gs.mono e1) hG'⟩⟩
theorem Zir {mE : R β ω} (i : Nat) (hi : fget env i = .ow tag w fs) (xb : β) (s : D -> κ.Sr) (he : AF X K E (κ.fx xb) xb env i tag fs w e c) (hx : ∀ w, Wk (fput env i (.ow tag w fs)) (κ.fx xb)) (hw : ∀ w, Wk (fput env i (.ow tag w fs)) (κ.fr (s w))) (eE : (c fun d w1 => κ.kr d (s w1)) = mE) (hn : κ.nw = none := by rfl) : AB X K E κ env [.Return (some e) pos] mE := by
  subst eE
  exact ⟨he.1, fun B F H σ Dn G sr gs hG => ⟨_, pss_one (ps_ret pe_C), Gs.afj he.2 hi hx sr gs hG fun d w1 v F1 H1 h1 e1 s1 d1 => gs.rt d (s w1) h1 v F1 H1 σ e1 (s1.wk (hw w1)) (by unfold rR; rw [hn]; exact d1)⟩⟩
theorem Zqq (i : Nat) (hi : fget env i = .ow tag w fs) {q : Expr} {a b : List Stmt} {ct : (Bool -> D -> R β ω) -> R β ω} {S : Type} (f : S -> Fm) {ma mb : D -> (S -> R β ω) -> R β ω} {k : S -> R β ω} (xb : β) (hc : AFT X K E (κ.fx xb) xb env i tag fs w q ct) (hx : ∀ w, Wk (fput env i (.ow tag w fs)) (κ.fx xb))
    (ha : ∀ w k, AB X K E (κ.join S f k) (fput env i (.ow tag w fs)) a (ma w k)) (hb : ∀ w k, AB X K E (κ.join S f k) (fput env i (.ow tag w fs)) b (mb w k)) (hr : ∀ s, AB X K E κ (f s) rest (k s)) : AB X K E κ env (.If q a b pos :: rest) (R.join k fun k => ct fun x w1 => if x then ma w1 k else mb w1 k) :=
  ⟨hc.1, fun B F H σ Dn G sr gs hG => ⟨_, pss_cons (ps_if pt_C ps_C ps_C) ps_C, Gs.afj hc.2 hi hx sr gs hG fun d w1 v F1 H1 h1 e1 s1 d1 => by
    subst d1
    cases v with
    | true => exact iteT ((ha w1 k).2 B F1 H1 σ _ G s1 ((gs.join hr).mono e1) h1)
    | false => exact iteF ((hb w1 k).2 B F1 H1 σ _ G s1 ((gs.join hr).mono e1) h1)⟩⟩
theorem Znr (i : Nat) (hi : fget env i = .ow tag w fs) {q : Expr} {a : List Stmt} {ct : (Bool -> D -> R β ω) -> R β ω} {ma mb : D -> R β ω} (xb : β) (hc : AFT X K E (κ.fx xb) xb env i tag fs w q ct) (hx : ∀ w, Wk (fput env i (.ow tag w fs)) (κ.fx xb)) (ha : ∀ w, AB X K E κ.stop (fput env i (.ow tag w fs)) a (ma w)) (hb : ∀ w, AB X K E κ (fput env i (.ow tag w fs)) rest (mb w)) : AB X K E κ env (.If q a [] pos :: rest) (ct fun x w1 => if x then ma w1 else mb w1) :=
  ⟨hc.1, fun B F H σ Dn G sr gs hG => ⟨_, pss_cons (ps_if pt_C ps_C pss_nil) ps_C, Gs.afj hc.2 hi hx sr gs hG fun d w1 v F1 H1 h1 e1 s1 d1 => by
    subst d1
    cases v with
    | true => exact iteT ((ha w1).2 B F1 H1 σ _ G s1 (gs.stop.mono e1) h1)
    | false => exact iteF ((hb w1).2 B F1 H1 σ Dn G s1 (gs.mono e1) h1)⟩⟩
end
end DM
namespace DM
open PySem PySem.Spec PyProof.Rows L2 DL
def repG : D -> D -> Option D := fun a b => match a, b with
  | .lst ds, .int k => if -(2 ^ 63) ≤ k ∧ k < 2 ^ 63 ∧ ds.length * k.toNat ≤ sizeLine then some (.lst (List.replicate k.toNat ds).flatten) else none
  | _, _ => none
section
variable {X : Cx} {K : PySem.W.Frag} {E : XE} {β γ : Type} {xF : Fm} {xb : β} {env : Fm} {a b e : Expr} {pos : Pos}
theorem Zeg {B : Bs} {F H : Hp} {σ : L2.St} {p : Addr} {o : HO} {x y z : D} {w : V} {Q : VK} (s : SR K B F H σ env) (hp : H p = some o) (hd : Do K F o x) (hy : Dh K F H w y) (hc : repG x y = some z)
    (hk : ∀ v F' H', Ex F F' -> Ex H H' -> SR K B F' H' σ env -> rN K B F' H' σ env v z [] -> Q v H') : rRep (.ref p) w H Q := by
  unfold repG at hc
  split at hc
  · split at hc
    · rename_i hz
      cases hc
      cases hd with
      | lst hA =>
        refine ⟨p, _, _, rfl, hy.int, hp, hz.1, hz.2.1, by rw [hA.length]; exact hz.2.2, fun q hq0 => ?_⟩
        obtain ⟨s3, n3⟩ := s.newN hq0 (Do.lst (hA.rep _))
        exact hk _ F _ (Ex.refl F) (Ex.new hq0) s3 n3
    · cases hc
  · cases hc
theorem Ze6 {c1 c2 : (D -> R β γ) -> R β γ} (ha : AN X K E xF xb env [] a c1) (hb : AL X K E xF xb env b c2) : AN X K E xF xb env [] (.BinOp a .Mult b pos) (fun (k : D -> R β γ) => c1 fun x => c2 fun y => R.lft (repG x y) k) :=
  ⟨ha.1, fun B F H σ Q k G s w gx hk hG => ⟨_, pe_op op_rep pe_C pe_C, ha.2 B F H σ _ _ G s w gx (fun x v F1 H1 h1 e1 eh1 s1 r1 => hb.2 B F1 H1 σ _ _ G s1 w (gx.mono e1) (fun y u F2 H2 h2 e2 eh2 s2 d2 => by
    cases hc : repG x y with
    | none => rw [hc] at h2; exact (gx.no h2).elim
    | some z =>
      rw [hc] at h2
      obtain ⟨p, S, rfl, o1, _⟩ := r1
      obtain ⟨_, o, g1, g2⟩ := o1.plain
      exact Zeg s2 (eh2 _ _ g1) (g2.mono e2) d2 hc fun v' F' H' e' eh' s' r' => hk z v' F' H' h2 (e1.trans (e2.trans e')) (eh1.trans (eh2.trans eh')) s' r') h1) hG⟩⟩
theorem Zqm {i : Nat} {tag : Option Nat} {fs : List Str} {w : D} {c1 : (D -> R β γ) -> R β γ} {c2 : (D -> D -> R β γ) -> R β γ} (ha : AN X K E xF xb (fput env i (.ow tag w fs)) [] a c1) (hb : AF X K E xF xb env i tag fs w b c2) :
    AF X K E xF xb env i tag fs w (.BinOp a .Mult b pos) (fun (k : D -> D -> R β γ) => c1 fun x => c2 fun y w1 => R.lft (repG x y) fun z => k z w1) :=
  ⟨ha.1, fun B F H σ Q k G s wk gx hk hG => ⟨_, pe_op op_rep pe_C pe_C, ha.2 B F H σ _ _ G s (wk w) gx (fun x v F1 H1 h1 e1 eh1 s1 r1 => by
    obtain ⟨ft, hf⟩ := s1.own
    obtain ⟨p, S, rfl, o1, o2, o3⟩ := r1
    obtain ⟨rfl, o, g1, g2⟩ := o1.plain
    · refine hb.2 (B.at F1 H1 (fput env i (.ow tag w fs)) ft) F1 H1 σ _ _ G (s1.rebase hf) wk ⟨gx.no, fun y hy c dd F' H' e' s' x' => gx.ex y hy c dd F' H' (e1.trans e') (s1.unbase hf (fun _ _ z => z) s') x'⟩ (fun y w1 u F2 H2 h2 e2 s2 d2 => ?_) h1
      cases hc : repG x y with
      | none => rw [hc] at h2; exact (gx.no h2).elim
      | some z =>
        rw [hc] at h2
        obtain ⟨k1, _, _⟩ := s2.off (p := p) g1 (o2 p List.mem_cons_self).1 (o3 ft hf p List.mem_cons_self)
        exact Zeg (s1.unbase hf (fun _ _ z => z) s2) k1 (g2.mono e2) (.inl d2) hc fun v' F' H' e' _ s' r' => by
          obtain ⟨F5, e5, d5, s5⟩ := s'.frzN r'
          exact hk z w1 v' F5 H' h2 (e1.trans (e2.trans (e'.trans e5))) s5 d5) hG⟩⟩
end
section
variable {X : Cx} {K : PySem.W.Frag} {E : XE} {β ω : Type} {κ : Kt β ω} {env : Fm} {pos : Pos} {rest : List Stmt} {tag : Option Nat} {e : Expr}
def R.push (ds : List D) (y : D) (k : D -> R β ω) : R β ω := if ds.length < sizeLine then k (.lst (ds ++ [y])) else .no
def R.ext (ds ys : List D) (k : D -> R β ω) : R β ω := if ds.length + ys.length ≤ sizeLine then k (.lst (ds ++ ys)) else .no
def R.setAt (ds : List D) (i y : D) (k : D -> R β ω) : R β ω := match i with
  | .int i => match ixN ds.length i with
    | some j => k (.lst (ds.set j y))
    | none => .no
  | _ => .no
theorem SR.cell {B : Bs} {F H : Hp} {σ : L2.St} {i : Nat} {d d' : D} {o' : HO} (s : SR K B F H σ env) (hi : fget env i = .ow tag d []) (hd : Do K F o' d') : ∃ p o, σ[i]? = some (some (.ref p)) ∧ H p = some o ∧ Do K F o d ∧ SR K B F (upd H p o') σ (fput env i (.ow tag d' [])) := by
  obtain ⟨p, S, h1, h2, h3, h4⟩ := s.chg hi
  obtain ⟨rfl, o, g1, g2⟩ := h2.plain
  refine ⟨p, o, h1, g1, g2, h4 F (upd H p o') d' [] [p] (Ex.refl F) (fun _ _ h => .inl h) (fun a o h => ?_) (fun a o hn h => ?_) (.ce upd_same hd) fun a ha => ⟨.inl ha, h3 a ha⟩⟩
  · rw [upd_ne fun z => by rw [z, h3 p List.mem_cons_self] at h; cases h]; exact s.ex a o h
  · rw [upd_ne fun z => hn (by rw [z]; exact List.mem_cons_self)]; exact h
theorem SR.cell0 {B : Bs} {F H : Hp} {σ : L2.St} {i : Nat} {d : D} (s : SR K B F H σ env) (hi : fget env i = .ow tag d []) : ∃ p o, σ[i]? = some (some (.ref p)) ∧ H p = some o ∧ Do K F o d := by
  obtain ⟨ft, hf⟩ := s.own
  obtain ⟨p, h1, h2, _⟩ := hf.ow i tag d [] hi
  obtain ⟨_, o, h3, h4⟩ := h2.plain
  exact ⟨p, o, h1, h3, h4⟩
theorem Z4t (i : Nat) {x : Str} {d : D} (hi : fget env i = .ow tag d []) {c : (D -> R β ω) -> R β ω} {m : D -> R β ω} {p1 p2 p3 : Pos} (xb : β) (he : AE X K E (κ.fx xb) xb env e c) (hx : Wk env (κ.fx xb)) (hr : ∀ d, AB X K E κ (fput env i (.ow tag d [])) rest (m d))
    (hN : X.N[i]? = some x := by rfl) (hv : Vis X.env.scope x := by first | exact Or.inl rfl | exact Or.inr (Or.inl rfl) | exact Or.inr (Or.inr rfl)) (hd : (x == ("__debug__" : Str)) = false := by decide) (hcd : (x == ("__classdict__" : Str)) = false := by decide)
    (hst : starEach [e] X.env = [(false, eval e X.env)] := by rfl)
    (hbase : attributeBase (.Name x p1) "append" X.env (eval (.Name x p1) X.env) = eval (.Name x p1) X.env := by rfl)
    (hfew : ((backTo p3 (starEach [e] X.env)).all (fun x => !x.1) && (backToKw p3 (keywordEach [] X.env)).all (fun x => x.1.isSome)
      && decide (([e] : List Expr).length + ([] : List Keyword).length + (if ([] : List Keyword).isEmpty then 0 else 1) < 30)) = true := by rfl)
    (hline : (p2.endLine == p3.line) = true := by rfl)
    (hs : swapsWith (.Call (.Attribute (.Name x p1) "append" p2) [e] [] p3) none pos.line X.env = pure false := by rfl) :
    AB X K E κ env (.Expr (.Call (.Attribute (.Name x p1) "append" p2) [e] [] p3) pos :: rest) (R.asL d fun ds => c fun y => R.push ds y m) := by
  have hK := he.1
  subst hK
  refine ⟨rfl, fun B F H σ Dn G sr gs hG => ⟨_, pss_cons (ps_expr (pe_bm PySem.F.plainAttrs_list PySem.F.slot_list_append PySem.F.type_list_append mt_append (pe_var hN hv hd hcd) (pa_cons pe_C pa_nil hst) hbase hfew hline hst rfl) hs) ps_C, ?_⟩⟩
  cases d <;> first | exact (gs.no hG).elim | skip
  rename_i ds
  obtain ⟨p, o, h1, h2, h3⟩ := sr.cell0 hi
  cases h3
  refine ⟨.ref p, h1, Or.inl ⟨rfl, _, SqL.of h2⟩, he.2 B F H σ _ _ G sr hx (gs.gx xb) (fun y v F1 H1 g1 e1 eh1 s1 d1 => ?_) hG⟩
  unfold R.push at g1
  split at g1
  · rename_i hz
    obtain ⟨p', o', k1, k2, k3⟩ := s1.cell0 hi
    rw [h1] at k1
    cases k1
    cases k3 with
    | lst hA =>
      obtain ⟨p4, o4, k4, k5, k6, k7⟩ := s1.cell (d' := .lst (ds ++ [y])) hi (.lst (hA.append (.one d1)))
      rw [h1] at k4
      cases k4
      exact ⟨p, _, v, rfl, rfl, k2, by rw [hA.length]; exact hz, (hr _).2 B F1 _ σ Dn G k7 (gs.mono e1) g1⟩
  · exact (gs.no g1).elim
theorem Z7b (i : Nat) {x : Str} {d : D} (hi : fget env i = .ow tag d []) {k e : Expr} {c ck : (D -> R β ω) -> R β ω} {m : D -> R β ω} {p1 p2 : Pos} (xb : β) (hk : AL X K E (κ.fx xb) xb env k ck) (he : AE X K E (κ.fx xb) xb env e c) (hx : Wk env (κ.fx xb)) (hr : ∀ d, AB X K E κ (fput env i (.ow tag d [])) rest (m d))
    (hN : X.N[i]? = some x := by rfl) (hv : Vis X.env.scope x := by first | exact Or.inl rfl | exact Or.inr (Or.inl rfl) | exact Or.inr (Or.inr rfl)) (hd : (x == ("__debug__" : Str)) = false := by decide) (hcd : (x == ("__classdict__" : Str)) = false := by decide)
    (hs : swapsWithSole [.Subscript (.Name x p1) k p2] e pos.line X.env = pure false := by rfl) (hw : swappedStores [.Subscript (.Name x p1) k p2] e X.env = pure none := by rfl)
    (h1 : (assignEach [.Subscript (.Name x p1) k p2] X.env).map (·.2) = [assign (.Subscript (.Name x p1) k p2) X.env] := by rfl)
    (ha : ∀ v, assign (.Subscript (.Name x p1) k p2) X.env v = (do
      let ov ← holding [v] (eval (.Name x p1) X.env)
      let iv ← holding [v, ov] (eval k X.env)
      standAt p2
      holding [v, ov, iv] (setItem ov iv v)
      release [v, ov, iv] []) := by intro _; rfl) :
    AB X K E κ env (.Assign [.Subscript (.Name x p1) k p2] e pos :: rest) (R.asL d fun ds => c fun y => ck fun j => R.setAt ds j y m) := by
  refine ⟨he.1, fun B F H σ Dn G sr gs hG => ⟨_, pss_cons (ps_asg pe_C (pg_sub (pe_var hN hv hd hcd) pe_C set_list ha) hs hw h1) ps_C, ?_⟩⟩
  cases d <;> first | exact (gs.no hG).elim | skip
  rename_i ds
  refine he.2 B F H σ _ _ G sr hx (gs.gx xb) (fun y v F1 H1 g1 e1 eh1 s1 d1 => ?_) hG
  obtain ⟨p, o, q1, q2, q3⟩ := s1.cell0 hi
  refine ⟨.ref p, q1, hk.2 B F1 H1 σ _ _ G s1 hx ((gs.mono e1).gx xb) (fun j u F2 H2 g2 e2 eh2 s2 d2 => ?_) g1⟩
  unfold R.setAt at g2
  split at g2
  · rename_i kk
    split at g2
    · rename_i jj hj
      obtain ⟨p', o', k1, k2, k3⟩ := s2.cell0 hi
      rw [q1] at k1
      cases k1
      cases k3 with
      | lst hA =>
        obtain ⟨p4, o4, k4, k5, k6, k7⟩ := s2.cell (d' := .lst (ds.set jj y)) hi (.lst (hA.set jj (d1.mono e2)))
        rw [q1] at k4
        cases k4
        exact ⟨p, _, kk, jj, rfl, d2.int, k2, by rw [hA.length]; exact hj, (hr _).2 B F2 _ σ Dn G k7 (gs.mono (e1.trans e2)) g2⟩
    · exact (gs.no g2).elim
  · exact (gs.no g2).elim
end
end DM
namespace DM
open PySem PySem.Spec PyProof.Rows L2 DL
def FnP (P : Program) (w : World) (K : PySem.W.Frag) (mg : Str -> Option Value) (base : Heap) (k : Nat) (f : Addr) (sp : Sp) : Prop :=
  ∀ (A : Around) (os : List Env) (s : Shared) (H : Hp) (us : List Value) (vs : List V) (Q : VK) (E : XK), Room k A -> Quiet A -> Env0 P w K mg base A os s H -> Vals vs us -> sp vs H Q E ->
    codeAny (model P w) A (.call (.ref f) ⟨us, []⟩) (CR (L2.CX P w) os P w H s Q E) s
section
variable {P : Program} {w : World} {K : PySem.W.Frag} {mg : Str -> Option Value} {base : Heap} {k j : Nat} {f : Addr} {sp sp' : Sp}
theorem FnP.up (F : FnP P w K mg base j f sp) (h : j ≤ k) : FnP P w K mg base k f sp := fun A os s H us vs Q E r => F A os s H us vs Q E (r.mono h)
theorem FnP.to (F : FnP P w K mg base k f sp) (h : ∀ vs H Q E, sp' vs H Q E -> sp vs H Q E) : FnP P w K mg base k f sp' := fun A os s H us vs Q E r q e v z => F A os s H us vs Q E r q e v (h vs H Q E z)
theorem Zq3 {fd : FuncData} {ps : List Str} (F : FnG P w K mg base (L2.CX P w) k f fd ps sp) (hb : Binds K fd ps []) : FnP P w K mg base k f sp := fun A os s H us vs Q E r q e0 v z => by
  have hl : (us ++ []).length = ps.length := by rw [List.append_nil, ← v.length]; exact F.ln _ _ _ _ z
  have hb' := hb s us (e0.mod.kin.keeps fun b o e => (e0.bs b o e).1) hl
  rw [List.append_nil] at hb'
  exact F.go A os s H ⟨us, []⟩ us vs Q E r q e0 hb' v z
def Zkv (n : Nat) (sp : Sp) : Sp := fun vs H Q E => ∃ ws rest, vs = ws ++ rest ∧ ws.length = n ∧ rest.length ≤ sizeLine ∧ ∀ p o, H p = none -> o.dict = none -> sp (ws ++ [V.ref p]) (upd H p (.frz o (.tup rest))) Q E
theorem Zk2 {x qual : Str} {st : Stmt} {fd : FuncData} {N ps : List Str} {pv : Str} (Fn : Fun K x qual st f fd) (S : FnScope N (ps ++ [pv]) (defScope st))
    (hb : ∀ us rest : List Value, us.length = ps.length -> bindArgs fd ⟨us ++ rest, []⟩ = (newTuple rest >>= fun t => pure (ps.zip us ++ [(pv, t)])))
    (hbody : Bod P w K mg base N qual st f k sp) : FnP P w K mg base (k + 1) f (Zkv ps.length sp) := by
  obtain ⟨v1, a1, v2, v3, v4, a2, cdv, v5, sl, rfl, lk, hcd⟩ := Fn.ex
  intro A os s H us vs Q E hr hq e0 r hsp
  obtain ⟨ws, rest, rfl, hl, hz, hs⟩ := hsp
  obtain ⟨u1, u2, rfl, r1, r2⟩ := StX.vals_split r
  have hn : H s.heap.objs.size = none := e0.hok.fresh (Nat.le_refl _)
  have hl1 : u1.length = ps.length := r1.length.symm.trans hl
  have hl2 : u2.length ≤ sizeLine := by rw [← r2.length]; exact hz
  refine StX.run_bnd lk hcd S hr e0 (G := fun xs H2 => ∃ p o, H p = none ∧ o.dict = none ∧ xs = ws ++ [V.ref p] ∧ H2 = upd H p (.frz o (.tup rest))) (fun A' Ex Q' h => ?_) (fun s2 H2 xs ⟨p, o, hp, ho, ex, eH⟩ hr' => ?_)
  · rw [hb u1 u2 hl1]
    refine wpAny_bind (wpAny_newTuple (wpAny_pure ?_) hl2)
    have hg : (s.heap.push ({ cls := .type "tuple", data := .seq u2.toArray } : Obj)).get? s.heap.objs.size = some { cls := .type "tuple", data := .seq u2.toArray } := Heap.get?_push_size _ rfl
    have new : ObjOk P w (upd H s.heap.objs.size (.frz { cls := .type "tuple", data := .seq u2.toArray } (.tup rest))) (s.heap.push ({ cls := .type "tuple", data := .seq u2.toArray } : Obj)) s.heap.objs.size (.frz { cls := .type "tuple", data := .seq u2.toArray } (.tup rest)) := And.intro hg (And.intro hz ⟨u2, r2, _, hg, rfl, _, rfl⟩)
    have un := StX.un_laid (fs := frs os) (s := s) (o := ({ cls := .type "tuple", data := .seq u2.toArray } : Obj)) (u := .frz { cls := .type "tuple", data := .seq u2.toArray } (.tup rest)) hn
    have z := h _ _ (ws ++ [V.ref s.heap.objs.size]) (u1 ++ [Value.ref s.heap.objs.size]) (StX.env0_laid e0 new) un rfl (fun e s' => StX.cxUp os s H _ _ E e s' un (fun b o q => Heap.get?_push_of_some _ q) rfl) (r1.append (.cons rfl .nil))
      (by rw [List.length_append, List.length_append, hl]; rfl) ⟨_, _, hn, rfl, rfl, rfl⟩
    rw [List.zip_append hl1.symm] at z
    exact z
  · subst ex eH
    exact hbody cdv A os s2 _ _ Q E hr' (hq.deeper _) (hs p o hp ho)
theorem Zg6 {B : List Value -> Sem (List (Str × Value))} {p1 p2 p3 pv : Str} (h0 : ∀ a b c, B [a, b, c] = (newTuple [] >>= fun t => pure [(p1, a), (p2, b), (p3, c), (pv, t)])) (h1 : ∀ a b c r rs, B (a :: b :: c :: r :: rs) = (newTuple (r :: rs) >>= fun t => pure [(p1, a), (p2, b), (p3, c), (pv, t)])) :
    ∀ us rest : List Value, us.length = [p1, p2, p3].length -> B (us ++ rest) = (newTuple rest >>= fun t => pure ([p1, p2, p3].zip us ++ [(pv, t)]))
  | [a, b, c], [], _ => h0 a b c
  | [a, b, c], r :: rs, _ => h1 a b c r rs
end
def Zbk {β α : Type} (n : Nat) (mf : List D -> R β α) : List D -> R β α := fun ds => if n ≤ ds.length && few (ds.length - n) then mf (ds.take n ++ [.tup (ds.drop n)]) else .no
theorem Z54 : ∀ (A B : Fm) {i : Nat}, i < A.length -> fget (A ++ B) i = fget A i
  | [], _, _, h => absurd h (Nat.not_lt_zero _)
  | _ :: _, _, 0, _ => rfl
  | _ :: A, B, i + 1, h => Z54 A B (by simpa using h)
theorem Z53 : ∀ (A B : Fm) (j : Nat), fget (A ++ B) (A.length + j) = fget B j
  | [], B, j => by simp
  | _ :: A, B, j => by
    rw [List.length_cons, Nat.add_right_comm]
    exact Z53 A B j
section
variable {K : PySem.W.Frag} {B : Bs} {F H F' H' : Hp} {σ σ' : L2.St} {env as A : Fm} {ft : Nat -> List Addr} {ws rest vs : List V} {ds2 : List D} {p : Addr}
theorem Zlh : ∀ {rest : List V} {ds2 : List D}, rest.length = ds2.length -> (∀ (i : Nat) (d : D), ds2[i]? = some d -> ∃ v, rest[i]? = some v ∧ Dr K F v d) -> DrA K F rest ds2
  | [], [], _, _ => .nil
  | v :: rest, d :: ds2, hl, h => by
    obtain ⟨v', h1, h2⟩ := h 0 d rfl
    cases h1
    exact .cons h2 (Zlh (by simpa using hl) fun i d h3 => h (i + 1) d h3)
  | [], _ :: _, hl, _ => by cases hl
  | _ :: _, [], hl, _ => by cases hl
theorem Zq2 : ∀ {ds : List D} {i : Nat} {d : D}, ds[i]? = some d -> fget (ds.map Sl.fz) i = .fz d
  | _ :: _, 0, _, h => by cases h; rfl
  | _ :: ds, i + 1, _, h => Zq2 (ds := ds) (i := i) (by simpa using h)
theorem SR.par {par par' : Nat -> Option Addr} {F0 H0 : Hp} {ps : Addr -> Prop} (s : SR K ⟨F0, H0, ps, par⟩ F H σ env) (h : ∀ i k d fs, fget env i = .ow (some k) d fs -> ∀ q, par k = some q -> par' k = some q) : SR K ⟨F0, H0, ps, par'⟩ F H σ env where
  ex := s.ex
  ex0 := s.ex0
  keep := s.keep
  newF := s.newF
  len := s.len
  fz := s.fz
  xc := s.xc
  own := by
    obtain ⟨ft, hf⟩ := s.own
    refine ⟨ft, fun i t d fs e => ?_, hf.dis⟩
    obtain ⟨p, h1, h2, h3, h4⟩ := hf.ow i t d fs e
    exact ⟨p, h1, h2, h3, fun k hk => h i k d fs (by rw [← hk]; exact e) p (h4 k hk)⟩
theorem SR.tail {us us' : List (Option V)} {C C' : Fm} (s : SR K B F H (us ++ σ) (A ++ C)) (hl : us.length = A.length) (hC : ∀ i x, fget C' i = x -> x = .un ∨ ∃ d v, x = .fz d ∧ us'[i]? = some (some v) ∧ Dr K F v d) (hC0 : ∀ i x, fget C i = x -> x = .un ∨ ∃ d, x = .fz d) (hl' : us'.length = C'.length) : SR K B F H (us ++ us') (A ++ C') := by
  have sp : ∀ {i : Nat} {x : Sl}, fget (A ++ C') i = x -> x ≠ .un -> (i < A.length ∧ fget (A ++ C) i = x) ∨ ∃ d v, x = .fz d ∧ (us ++ us')[i]? = some (some v) ∧ Dr K F v d := fun {i x} e hx => by
    rcases Nat.lt_or_ge i A.length with q | q
    · exact .inl ⟨q, by rw [Z54 _ _ q]; rw [Z54 _ _ q] at e; exact e⟩
    · obtain ⟨j, rfl⟩ := Nat.exists_eq_add_of_le q
      rw [Z53] at e
      rcases hC j x e with z | ⟨d, v, z, h1, h2⟩
      · exact absurd z hx
      · exact .inr ⟨d, v, z, by rw [← hl, List.getElem?_append_right (Nat.le_add_right _ _), Nat.add_sub_cancel_left]; exact h1, h2⟩
  have σl : ∀ {i : Nat}, i < A.length -> (us ++ us')[i]? = (us ++ σ)[i]? := fun {i} q => by rw [List.getElem?_append_left (by rw [hl]; exact q), List.getElem?_append_left (by rw [hl]; exact q)]
  refine ⟨s.ex, s.ex0, s.keep, s.newF, by rw [List.length_append, List.length_append, hl, hl'], fun i d e => ?_, fun i a d gs e => ?_, ?_⟩
  · rcases sp e (fun z => nomatch z) with ⟨q, e2⟩ | ⟨d', v, z, h1, h2⟩
    · obtain ⟨v, h1, h2⟩ := s.fz i d e2
      exact ⟨v, by rw [σl q]; exact h1, h2⟩
    · cases z; exact ⟨v, h1, h2⟩
  · rcases sp e (fun z => nomatch z) with ⟨q, e2⟩ | ⟨d', v, z, h1, h2⟩
    · obtain ⟨h1, h2⟩ := s.xc i a d gs e2
      exact ⟨by rw [σl q]; exact h1, h2⟩
    · cases z
  · obtain ⟨ft, hf⟩ := s.own
    refine ⟨ft, fun i t d fs e => ?_, fun i j t u d e fs gs hij e1 e2 => ?_⟩
    · rcases sp e (fun z => nomatch z) with ⟨q, e2⟩ | ⟨d', v, z, h1, h2⟩
      · obtain ⟨p, h1, h2⟩ := hf.ow i t d fs e2
        exact ⟨p, by rw [σl q]; exact h1, h2⟩
      · cases z
    · rcases sp e1 (fun z => nomatch z) with ⟨q, e3⟩ | ⟨d', v, z, h1, h2⟩
      · rcases sp e2 (fun z => nomatch z) with ⟨q', e4⟩ | ⟨d', v, z, h1, h2⟩
        · exact hf.dis i j t u d e fs gs hij e3 e4
        · cases z
      · cases z
theorem Zgy : ∀ (n i : Nat) (x : Sl), fget (List.replicate n Sl.un) i = x -> x = .un ∨ ∃ d, x = .fz d := fun n i x h => .inl (h.symm.trans (Z8e n i))
theorem Zi4 {ds : List D} (i : Nat) (x : Sl) (h : fget (ds.map Sl.fz) i = x) : x = .un ∨ ∃ d, x = .fz d := by
  by_cases q : x = .un
  · exact .inl q
  · obtain ⟨d, _, h2⟩ := Z96 h q
    exact .inr ⟨d, h2⟩
theorem Z6w : ∀ (os : List D) (n j : Nat), Z11 os (mk0 n) j = List.replicate n .un
  | _, 0, _ => by unfold mk0 Z11; rfl
  | os, n + 1, j => by
    show Z11 os (none :: mk0 n) j = _
    have : Z11 os (none :: mk0 n) j = .un :: Z11 os (mk0 n) (j + 1) := by cases os <;> rfl
    rw [this, Z6w os n]; rfl
theorem Zca {vs : List V} {n : Nat} : vs.map some = (vs.take n).map some ++ (vs.drop n).map some := by rw [← List.map_append, List.take_append_drop]
theorem Zgn {M : Mask} {mL : List D -> R (List D) (D × List D)} {n m : Nat} {Q : VK} {E : XK} (hM : M = [] ∨ ∃ fs, M = [some fs]) (h : spM K (M ++ mk0 m) none (Zbk (M.length + n) mL) vs H Q E) : Zkv (M.length + n) (spM K (M ++ mk0 (n + 1)) none mL) vs H Q E := by
  obtain ⟨hl, F, ds, ps, hdl, sr, hq⟩ := h
  unfold Zbk at hq
  split at hq
  case isFalse => exact hq.elim
  rename_i hc
  rw [Bool.and_eq_true] at hc
  obtain ⟨hc1, hc2⟩ := hc
  have hc1 : M.length + n ≤ ds.length := of_decide_eq_true hc1
  have hc2 : ds.length - (M.length + n) ≤ sizeLine := of_decide_eq_true hc2
  have hdl' : ds.length = M.length + m := by rw [hdl, List.length_append, List.length_replicate]
  have hvl : vs.length = ds.length := by rw [hl, hdl]
  refine ⟨vs.take (M.length + n), vs.drop (M.length + n), (List.take_append_drop _ _).symm, by rw [List.length_take, hvl]; omega, by rw [List.length_drop, hvl]; exact hc2, fun p o hp ho => ?_⟩
  -- the arguments' frame, split
  have hA : ∀ (es : List D) (r : Nat), es.length = M.length + r -> ∃ A0 : Fm, Z3h es (M ++ mk0 r) 0 = A0 ++ (es.drop M.length).map .fz ∧ A0.length = M.length ∧ (A0 = Z3h (es.take M.length) M 0) := by
    intro es r hr
    rcases hM with rfl | ⟨fs, rfl⟩
    · refine ⟨[], ?_, rfl, ?_⟩
      · show Z3h es (mk0 r) 0 = _
        rw [Z80 (by simpa using hr)]; rfl
      · rfl
    · cases es with
      | nil => simp at hr; omega
      | cons o es =>
        refine ⟨[.ow (some 0) o fs], ?_, rfl, rfl⟩
        show .ow (some 0) o fs :: Z3h es (mk0 r) 1 = _
        rw [Z80 (by simp at hr; omega)]; rfl
  obtain ⟨A0, a1, a2, a3⟩ := hA ds m hdl'
  rw [a1] at sr
  have hsplit : (ds.drop M.length) = (ds.drop M.length).take n ++ ds.drop (M.length + n) := by
    rw [← List.drop_drop]; exact (List.take_append_drop _ _).symm
  have sr0 : SR K ⟨F, H, ps, Z33 vs⟩ F H ((vs.take (M.length + n)).map some ++ (vs.drop (M.length + n)).map some) ((A0 ++ ((ds.drop M.length).take n).map .fz) ++ (ds.drop (M.length + n)).map .fz) := by
    have : (A0 ++ ((ds.drop M.length).take n).map .fz) ++ (ds.drop (M.length + n)).map .fz = A0 ++ (ds.drop M.length).map Sl.fz := by
      rw [List.append_assoc, ← List.map_append, ← hsplit]
    rw [this, ← Zca]
    exact sr
  have lA : ((vs.take (M.length + n)).map some).length = (A0 ++ ((ds.drop M.length).take n).map Sl.fz).length := by
    rw [List.length_map, List.length_take, List.length_append, List.length_map, List.length_take, List.length_drop, a2, hvl]; omega
  have hdr : DrA K F (vs.drop (M.length + n)) (ds.drop (M.length + n)) := Zlh (by rw [List.length_drop, List.length_drop, hvl]) fun i d hi => by
    obtain ⟨v, h1, h2⟩ := sr0.fz ((A0 ++ ((ds.drop M.length).take n).map Sl.fz).length + i) d (by rw [Z53]; exact Zq2 hi)
    rw [← lA, List.getElem?_append_right (Nat.le_add_right _ _), Nat.add_sub_cancel_left, List.getElem?_map] at h1
    cases q : (vs.drop (M.length + n))[i]? with
    | none => rw [q] at h1; cases h1
    | some u => rw [q] at h1; cases h1; exact ⟨_, rfl, h2⟩
  have g := sr0.grow (o := .frz o (.tup (vs.drop (M.length + n)))) hp
  have eF : Ex F (upd F p (.frz o (.tup (vs.drop (M.length + n))))) := Ex.new (sr0.ex.none hp)
  have dT : Dr K (upd F p (.frz o (.tup (vs.drop (M.length + n))))) (.ref p) (.tup (ds.drop (M.length + n))) := .tup (Or.inl ⟨o, upd_same, ho⟩) (hdr.mono eF)
  obtain ⟨ft, hf⟩ := g.own
  have tagA : ∀ (C : Fm), (∀ i x, fget C i = x -> x = .un ∨ ∃ d, x = .fz d) -> ∀ i k d fs, fget ((A0 ++ ((ds.drop M.length).take n).map Sl.fz) ++ C) i = .ow (some k) d fs -> k = 0 ∧ M ≠ [] := fun C hC i k d fs e => by
    rcases Nat.lt_or_ge i (A0 ++ ((ds.drop M.length).take n).map Sl.fz).length with q | q
    · rw [Z54 _ _ q] at e
      rcases Nat.lt_or_ge i A0.length with q2 | q2
      · rw [Z54 _ _ q2, a3] at e
        rcases hM with rfl | ⟨gs, rfl⟩
        · rw [a2] at q2; exact absurd q2 (Nat.not_lt_zero _)
        · cases hds : ds.take 1 with
          | nil => rw [show ds.take [some gs].length = [] from hds] at e; cases e
          | cons o r =>
            rw [show ds.take [some gs].length = o :: r from hds] at e
            cases i with
            | zero => cases e; exact ⟨rfl, fun z => nomatch z⟩
            | succ i => rw [a2] at q2; simp at q2
      · obtain ⟨j, rfl⟩ := Nat.exists_eq_add_of_le q2
        rw [Z53] at e
        rcases Zi4 _ _ e with z | ⟨d, z⟩ <;> cases z
    · obtain ⟨j, rfl⟩ := Nat.exists_eq_add_of_le q
      rw [Z53] at e
      rcases hC _ _ e with z | ⟨d, z⟩ <;> cases z
  have par0 : ∀ (n0 : Nat), M ≠ [] -> Z33 (vs.take (M.length + n) ++ [V.ref p]) 0 = Z33 vs 0 := fun _ hMn => by
    have hpos : 0 < M.length := by cases M with | nil => exact absurd rfl hMn | cons _ _ => exact Nat.succ_pos _
    unfold Z33
    rw [List.getElem?_append_left (by rw [List.length_take, hvl]; omega), List.getElem?_take_of_lt (by omega)]
  have s1 : SR K ⟨upd F p (.frz o (.tup (vs.drop (M.length + n)))), upd H p (.frz o (.tup (vs.drop (M.length + n)))), owned ((A0 ++ ((ds.drop M.length).take n).map .fz) ++ (ds.drop (M.length + n)).map .fz) ft, Z33 (vs.take (M.length + n) ++ [V.ref p])⟩ (upd F p (.frz o (.tup (vs.drop (M.length + n))))) (upd H p (.frz o (.tup (vs.drop (M.length + n))))) ((vs.take (M.length + n)).map some ++ [some (.ref p)]) ((A0 ++ ((ds.drop M.length).take n).map .fz) ++ [.fz (.tup (ds.drop (M.length + n)))]) := by
    have z := ((g.rebase hf).tail (us' := [some (V.ref p)]) (C' := [.fz (.tup (ds.drop (M.length + n)))]) lA (fun i x e => by
      cases i with
      | zero => exact .inr ⟨_, _, e.symm, rfl, dT⟩
      | succ i => exact .inl e.symm) (fun i x e => Zi4 i x e) rfl)
    refine SR.par z fun i k d fs e q hq => ?_
    obtain ⟨rfl, hMn⟩ := tagA [.fz (.tup (ds.drop (M.length + n)))] (fun i x e => by cases i with | zero => exact .inr ⟨_, e.symm⟩ | succ i => exact .inl e.symm) i k d fs e
    rw [par0 0 hMn]
    exact hq
  -- what is behind
  have back : ∀ {os : List D} {F' H' : Hp}, SR K ⟨upd F p (.frz o (.tup (vs.drop (M.length + n)))), upd H p (.frz o (.tup (vs.drop (M.length + n)))), owned ((A0 ++ ((ds.drop M.length).take n).map .fz) ++ (ds.drop (M.length + n)).map .fz) ft, Z33 (vs.take (M.length + n) ++ [V.ref p])⟩ F' H' ((vs.take (M.length + n) ++ [V.ref p]).map some) (Z11 os (M ++ mk0 (n + 1)) 0) ->
      SR K ⟨F, H, ps, Z33 vs⟩ F' H' (vs.map some) (Z11 os (M ++ mk0 m) 0) := fun {os F' H'} r => by
    have hO : ∀ r0 : Nat, ∃ O0 : Fm, (∀ r1, Z11 os (M ++ mk0 r1) 0 = O0 ++ List.replicate r1 .un) ∧ O0.length = M.length ∧ ∀ i k d fs, fget O0 i = .ow (some k) d fs -> k = 0 ∧ M ≠ [] := fun _ => by
      rcases hM with rfl | ⟨fs, rfl⟩
      · exact ⟨[], fun r1 => Z6w os r1 0, rfl, fun i k d fs e => by cases i <;> cases e⟩
      · cases os with
        | nil => exact ⟨[.un], fun r1 => by show Sl.un :: Z11 [] (mk0 r1) 1 = _; rw [Z6w]; rfl, rfl, fun i k d fs e => by cases i with | zero => cases e | succ i => cases i <;> cases e⟩
        | cons o os => exact ⟨[.ow (some 0) o fs], fun r1 => by show Sl.ow (some 0) o fs :: Z11 os (mk0 r1) 1 = _; rw [Z6w]; rfl, rfl, fun i k d fs e => by cases i with | zero => cases e; exact ⟨rfl, fun z => nomatch z⟩ | succ i => cases i <;> cases e⟩
    obtain ⟨O0, o1, o2, o3⟩ := hO 0
    rw [o1] at r ⊢
    have tagO : ∀ (r1 : Nat) i k d fs, fget (O0 ++ List.replicate r1 Sl.un) i = .ow (some k) d fs -> k = 0 ∧ M ≠ [] := fun r1 i k d fs e => by
      rcases Nat.lt_or_ge i O0.length with q | q
      · rw [Z54 _ _ q] at e
        exact o3 i k d fs e
      · obtain ⟨j, rfl⟩ := Nat.exists_eq_add_of_le q
        rw [Z53] at e
        rcases Zgy _ _ _ e with z | ⟨d, z⟩ <;> cases z
    have r2 := SR.par (par' := Z33 vs) r (fun i k d fs e q hq => by
      obtain ⟨rfl, hMn⟩ := tagO _ i k d fs e
      rw [par0 0 hMn] at hq
      exact hq)
    have r3 := g.unbase hf (fun _ _ h => h) r2
    have hv1 : (vs.take (M.length + n) ++ [V.ref p]).map some = (vs.take M.length).map some ++ (((vs.drop M.length).take n).map some ++ [some (V.ref p)]) := by
      rw [List.map_append, show vs.take (M.length + n) = vs.take M.length ++ (vs.drop M.length).take n from List.take_add, List.map_append, List.append_assoc]; rfl
    rw [hv1] at r3
    have hv2 : vs.map some = (vs.take M.length).map some ++ (vs.drop M.length).map some := Zca
    rw [hv2]
    refine r3.tail (by rw [List.length_map, List.length_take, o2, hvl]; omega) (fun i x e => ?_) (fun i x e => Zgy _ i x e) (by rw [List.length_map, List.length_drop, List.length_replicate, hvl]; omega)
    rcases Zgy _ i x e with z | ⟨d, z⟩
    · exact .inl z
    · rw [Z8e] at e; subst e; cases z
  have hds : Z3h (ds.take (M.length + n) ++ [.tup (ds.drop (M.length + n))]) (M ++ mk0 (n + 1)) 0 = (A0 ++ ((ds.drop M.length).take n).map .fz) ++ [.fz (.tup (ds.drop (M.length + n)))] := by
    have hlen : (ds.take (M.length + n) ++ [D.tup (ds.drop (M.length + n))]).length = M.length + (n + 1) := by rw [List.length_append, List.length_take]; simp; omega
    obtain ⟨A1, b1, b2, b3⟩ := hA _ (n + 1) hlen
    rw [b1, b3, a3, List.drop_append, List.length_take, List.drop_take, List.take_append, List.take_take]
    have e1 : min M.length (M.length + n) = M.length := by omega
    have e2 : M.length - min (M.length + n) ds.length = 0 := by omega
    rw [e1, List.length_take, e2]
    simp
  refine ⟨by rw [List.length_append, List.length_take, hvl, List.length_append, List.length_replicate]; simp; omega, _, ds.take (M.length + n) ++ [.tup (ds.drop (M.length + n))], _, by rw [List.length_append, List.length_take, List.length_append, List.length_replicate]; simp; omega, by rw [hds, List.map_append]; exact s1, ?_⟩
  generalize hmm : mL (ds.take (M.length + n) ++ [.tup (ds.drop (M.length + n))]) = mm at hq ⊢
  cases mm with
  | no => exact hq.elim
  | ex x os => exact fun c dd F' H' e1 s2 x2 => hq c dd F' H' (eF.trans e1) (back s2) x2
  | ok q =>
    obtain ⟨d, os⟩ := q
    exact fun v F' H' e1 s2 d2 => hq v F' H' (eF.trans e1) (back s2) d2
end
end DM
namespace DM
open PySem PySem.Spec PyProof.Rows L2 DL
abbrev PrP (P : Program) (w : World) (K : PySem.W.Frag) (mg : Str -> Option Value) (base : Heap) (k : Nat) (f : Addr) (nw : Option (List Str)) (mf : List D -> R Unit D) : Prop := ∀ n, FnP P w K mg base k f (spM K (mk0 n) nw (Lp mf))
abbrev PrR (P : Program) (w : World) (K : PySem.W.Frag) (mg : Str -> Option Value) (base : Heap) (k : Nat) (f : Addr) (fs : List Str) (mf : List D -> R Unit (D × D)) : Prop := ∀ n, FnP P w K mg base k f (spM K (some fs :: mk0 n) none (L1e mf))
section
variable {P : Program} {w : World} {K : PySem.W.Frag} {mg : Str -> Option Value} {base : Heap} {k j n : Nat} {f : Addr} {fd : FuncData} {ps : List Str} {nw : Option (List Str)} {fs : List Str}
theorem Z2u {mf : List D -> R Unit D} (F : FnG P w K mg base (L2.CX P w) k f fd ps (spM K (mk0 n) nw (Lp mf))) (hb : Binds K fd ps []) (hl : ∀ ds, mf ds ≠ .no -> ds.length = n) : PrP P w K mg base k f nw mf := fun m =>
  (Zq3 F hb).to fun vs H Q E h => by
    have h0 := h
    obtain ⟨h1, F, ds, q, h2, h3, h4⟩ := h
    have hne : mf ds ≠ .no := fun z => by
      have : Lp mf ds = .no := by unfold Lp; rw [z]
      rw [this] at h4
      exact h4
    have := hl ds hne
    rw [List.length_replicate] at h2
    rw [← this, h2]
    exact h0
theorem Zmw (mf : List D -> R Unit (D × D)) : L1e (Zbk n mf) = Zbk n (L1e mf) := funext fun ds => by
  unfold L1e Zbk
  split <;> rename_i h <;> split at h <;> simp_all
theorem Zjc {x qual : Str} {st : Stmt} {N : List Str} {pv : Str} {mf : List D -> R Unit (D × D)} (Fn : Fun K x qual st f fd) (S : FnScope N (ps ++ [pv]) (defScope st)) (hn : ps.length = n + 1)
    (hb : ∀ us rest : List Value, us.length = ps.length -> bindArgs fd ⟨us ++ rest, []⟩ = (newTuple rest >>= fun t => pure (ps.zip us ++ [(pv, t)])))
    (hbody : Bod P w K mg base N qual st f k (spM K (some fs :: mk0 (n + 1)) none (L1e mf))) : PrR P w K mg base (k + 1) f fs (Zbk (n + 1) mf) := fun m =>
  (Zk2 Fn S hb hbody).to fun vs H Q E h => by
    rw [Zmw] at h
    have := Zgn (M := [some fs]) (n := n) (m := m) (Or.inr ⟨fs, rfl⟩) (by rw [show ([some fs] : Mask).length + n = n + 1 by simp; omega]; exact h)
    rw [show ([some fs] : Mask).length + n = n + 1 by simp; omega] at this
    rw [hn]
    exact this
end
def Znw (X : Cx) (es : List Expr) (t : TA) : Prop := ∀ (pos : Pos) (fv : Value) (first : List Value) (pins : List (Addr × Obj)) (s : Shared) (σ : L2.St) (H : Hp) (Q : List V -> Hp -> Prop) (Qf : Value -> Shared -> Prop), PySem.W.keepIn X.K fv = true -> Inv X pins σ H s -> t σ H Q ->
  (∀ us vs H1 s1, Inv X pins σ H1 s1 -> Vals vs us -> Q vs H1 -> wpAny (model X.prog X.w) X.A (call fv (first ++ us)) Qf X.xe s1) -> wpAny (model X.prog X.w) X.A (callWith pos fv first (backTo pos (starEach es X.env)) []) Qf X.xe s
def tcC (X : Cx) (es : List Expr) : TA := fun σ H Q => ∃ t, Znw X es t ∧ t σ H Q
theorem cw_C {X : Cx} {es : List Expr} : Znw X es (tcC X es) := fun pos fv first pins s σ H Q Qf hk I ⟨_, h, ht⟩ hq => h pos fv first pins s σ H Q Qf hk I ht hq
def AC (X : Cx) (K : PySem.W.Frag) (E : XE) {β γ : Type} (xF : Fm) (xb : β) (env : Fm) (es : List Expr) (c : (List D -> R β γ) -> R β γ) : Prop := X.K = K ∧ AJ K E xF xb env (tcC X es) (fun _ F _ _ vs ds => DrA K F vs ds) c
section
variable {X : Cx} {K : PySem.W.Frag} {E : XE} {β γ : Type} {xF : Fm} {xb : β} {env : Fm} {e : Expr} {es : List Expr} {p pos : Pos} {k n : Nat} {x : Str} {c1 : (D -> R β γ) -> R β γ} {cs : (List D -> R β γ) -> R β γ}
theorem Z6i (hK : X.K = K := by rfl) : AC X K E xF xb env [] (fun (k : List D -> R β γ) => k []) :=
  ⟨hK, fun B F H σ Q k G s w gx hk hG => ⟨tNil, fun pos fv first pins s σ H Q Qf hkp I h hq => PySem.W.callWith_K0 I.kIn hkp (hq [] [] H s I .nil h), hk [] [] F H hG (Ex.refl F) (Ex.refl H) s .nil⟩⟩
theorem Z1c (h : AA X K E xF xb env (e :: es) cs) (he : starEach (e :: es) X.env = (false, eval e X.env) :: starEach es X.env := by rfl) (hpl : ∀ pos, (backTo pos (starEach es X.env)).any (·.1) = false := by intro _; rfl) : AC X K E xF xb env (e :: es) cs :=
  ⟨h.1, fun B F H σ Q k G s w gx hk hG => ⟨taC X (e :: es), fun pos fv first pins s σ H Q Qf hkp I h1 hq => PySem.W.callWith_K (h₀ := X.base) I.ok.mod.kin hkp (thn (pa_C.run pos pins s σ H _ I h1) fun us s1 ⟨vs, H1, I1, r, q⟩ => ⟨I1.kIn, hq us vs H1 s1 I1 r q⟩) he (hpl pos), h.2 B F H σ Q k G s w gx hk hG⟩⟩
theorem Zrv (h : AA X K E xF xb env (e :: es) cs) (he : starEach (e :: es) X.env = (false, eval e X.env) :: starEach es X.env := by rfl) (hst : ∀ pos, (backTo pos (starEach es X.env)).any (·.1) = true := by intro _; rfl) : AC X K E xF xb env (e :: es) cs :=
  ⟨h.1, fun B F H σ Q k G s w gx hk hG => ⟨taC X (e :: es), fun pos fv first pins s σ H Q Qf hkp I h1 hq => PySem.W.callWith_S2 (h₀ := X.base) I.ok.mod.kin hkp (thn (pa_C.run pos pins s σ H _ I h1) fun us s1 ⟨vs, H1, I1, r, q⟩ => ⟨I1.kIn, hq us vs H1 s1 I1 r q⟩) he (hst pos), h.2 B F H σ Q k G s w gx hk hG⟩⟩
theorem runP {f : Addr} {sp : Sp} {Ek : XK} {pins : List (Addr × Obj)} {σ : L2.St} {H : Hp} {s : Shared} {Q : VK} {us : List Value} {vs : List V} (F : FnP X.prog X.w X.K X.mg X.base k f sp) (hr : Room k X.A) (hG : Quiet X.A) (hx : PassesAt (L2.CX X.prog X.w) X σ Ek) (I : Inv X pins σ H s) (r : Vals vs us)
    (h : sp vs H Q Ek) : wpAny (model X.prog X.w) X.A (call (.ref f) us) (EP X pins σ Q) X.xe s := by
  refine wpAny_call (codeAny_mono (F X.A X.stack s H us vs Q Ek hr hG I.env0 r h) fun z s' hq => ?_)
  match z, hq with
  | .error e, hq => exact hx pins H s e s' I hq
  | .ok (.ret u), hq => exact I.after hq
  | .ok .next, hq | .ok .brk, hq | .ok .cont, hq => exact False.elim hq
end
end DM
namespace DM
open PySem PySem.Spec PyProof.Rows L2 DL
def R.prop {β α γ : Type} (m : R Unit α) (k : α -> R β γ) : R β γ := match m with
  | .ok a => k a
  | _ => .no
def Z3d {β γ : Type} (cs : Str -> Bool) (f : Str) (d : D) (k : D -> R β γ) : R β γ := match d with
  | .obj C gs => if cs C then R.lft (gs.lookup f) k else .no
  | _ => .no
def Zi {β γ : Type} (mt : Str -> Option (List D -> R Unit D)) (m : Str) (d : D) (k : (List D -> R Unit D) -> R β γ) : R β γ := match d with
  | .obj C gs => if (gs.lookup m).isNone then R.lft (mt C) k else .no
  | _ => .no
def putD (f : Str) (d : D) : List (Str × D) -> List (Str × D)
  | [] => [(f, d)]
  | (g, x) :: r => if g = f then (g, d) :: r else (g, x) :: putD f d r
structure FldC (K : PySem.W.Frag) (C f : Str) : Prop where
  ex : ∀ c, Cl K C c -> Cls K c ∧ NoAttr K c f
structure MethC (P : Program) (w : World) (K : PySem.W.Frag) (mg : Str -> Option Value) (base : Heap) (k : Nat) (C m : Str) (nw : Option (List Str)) (mf : List D -> R Unit D) : Prop where
  ex : ∀ c, Cl K C c -> Cls K c ∧ ∃ f, Meth K c m f ∧ PrP P w K mg base k f nw mf
structure StatC (P : Program) (w : World) (K : PySem.W.Frag) (mg : Str -> Option Value) (base : Heap) (k : Nat) (C m : Str) (nw : Option (List Str)) (mf : List D -> R Unit D) : Prop where
  ex : ∃ c mc p f rest, mg C = some (.ref c) ∧ ClX.CRead K c mc ∧ PySem.W.findCls K (.ref c) mc m = some (.get (.builtin "staticmethod.__get__") (.ref p) .none (.ref c)) ∧ PySem.W.recIn K p "staticmethod" = some (.ref f :: rest) ∧ PySem.W.keepIn K (.ref f) = true ∧ PrP P w K mg base k f nw mf
structure MakeC (P : Program) (w : World) (K : PySem.W.Frag) (mg : Str -> Option Value) (base : Heap) (k : Nat) (C : Str) (fs : List Str) (mf : List D -> R Unit (D × D)) : Prop where
  ex : ∃ c f, mg C = some (.ref c) ∧ Cl K C c ∧ Mk K c f ∧ PrR P w K mg base k f fs mf
section
variable {K : PySem.W.Frag} {F : Hp}
theorem Zi9 {f : Str} : ∀ {fs : List (Str × V)} {gs : List (Str × D)} {d : D}, fs.map (·.1) = gs.map (·.1) -> DrA K F (fs.map (·.2)) (gs.map (·.2)) -> gs.lookup f = some d -> ∃ v, fs.lookup f = some v ∧ Dr K F v d
  | [], [], d, _, _, h => by cases h
  | (n, v) :: fs, (n', d') :: gs, d, hn, ha, h => by
    simp only [List.map_cons, List.cons.injEq] at hn
    obtain ⟨rfl, hn⟩ := hn
    cases ha with
    | cons h1 h2 =>
      by_cases q : (f == n) = true
      · simp only [List.lookup, q] at h ⊢
        cases h
        exact ⟨v, rfl, h1⟩
      · simp only [Bool.not_eq_true] at q
        simp only [List.lookup, q] at h ⊢
        exact Zi9 hn h2 h
  | [], _ :: _, _, h, _, _ => by cases h
  | _ :: _, [], _, h, _, _ => by cases h
theorem Zf5 {f : Str} : ∀ {fs : List (Str × V)} {gs : List (Str × D)}, fs.map (·.1) = gs.map (·.1) -> (gs.lookup f).isNone = true -> fs.lookup f = none
  | [], [], _, _ => rfl
  | (n, v) :: fs, (n', d') :: gs, hn, h => by
    simp only [List.map_cons, List.cons.injEq] at hn
    obtain ⟨rfl, hn⟩ := hn
    by_cases q : (f == n) = true
    · simp only [List.lookup, q] at h; cases h
    · simp only [Bool.not_eq_true] at q
      simp only [List.lookup, q] at h ⊢
      exact Zf5 hn h
  | [], _ :: _, h, _ => by cases h
  | _ :: _, [], h, _ => by cases h
theorem Zi7 {f : Str} {v : V} {d : D} (hv : Dr K F v d) : ∀ {fs : List (Str × V)} {gs : List (Str × D)}, fs.map (·.1) = gs.map (·.1) -> DrA K F (fs.map (·.2)) (gs.map (·.2)) -> (putF f v fs).map (·.1) = (putD f d gs).map (·.1) ∧ DrA K F ((putF f v fs).map (·.2)) ((putD f d gs).map (·.2))
  | [], [], _, _ => ⟨rfl, .cons hv .nil⟩
  | (n, u) :: fs, (n', d') :: gs, hn, ha => by
    simp only [List.map_cons, List.cons.injEq] at hn
    obtain ⟨rfl, hn⟩ := hn
    cases ha with
    | cons h1 h2 =>
      show ((if n = f then (n, v) :: fs else (n, u) :: putF f v fs).map (·.1)) = ((if n = f then (n, d) :: gs else (n, d') :: putD f d gs).map (·.1)) ∧ DrA K F ((if n = f then (n, v) :: fs else (n, u) :: putF f v fs).map (·.2)) ((if n = f then (n, d) :: gs else (n, d') :: putD f d gs).map (·.2))
      by_cases q : n = f
      · rw [if_pos q, if_pos q]
        exact ⟨by simp [hn], .cons hv h2⟩
      · rw [if_neg q, if_neg q]
        obtain ⟨k1, k2⟩ := Zi7 hv hn h2
        exact ⟨by simp [k1], .cons h1 k2⟩
  | [], _ :: _, h, _ => by cases h
  | _ :: _, [], h, _ => by cases h
end
section
variable {X : Cx} {K : PySem.W.Frag} {E : XE} {β γ : Type} {xF : Fm} {xb : β} {env : Fm} {e o : Expr} {es : List Expr} {p pos apos : Pos} {k n : Nat} {x m f : Str} {c1 : (D -> R β γ) -> R β γ} {cs : (List D -> R β γ) -> R β γ}
theorem Z41 {cl : Str -> Bool} (hF : ∀ C, cl C = true -> FldC K C f) (h : AL X K E xF xb env e c1) (hb : attributeBase e f X.env (eval e X.env) = eval e X.env := by rfl) : AE X K E xF xb env (.Attribute e f pos) (fun (k : D -> R β γ) => c1 fun d => Z3d cl f d k) :=
  ⟨h.1, fun B F H σ Q k G s w gx hk hG => ⟨_, pe_fld pe_C hb, h.2 B F H σ _ _ G s w gx (fun d v F1 H1 h1 e1 eh1 s1 d1 => by
    have hK := h.1
    subst hK
    cases d <;> first | exact (gx.no h1).elim | skip
    rename_i C gs
    obtain ⟨a, c, dx, fs, rfl, g1, g2, g3, g4⟩ := d1.obj s1.ex
    have h1 : G (if cl C then R.lft (gs.lookup f) k else .no) := h1
    split at h1
    · rename_i hc
      cases hg : gs.lookup f with
      | none => rw [hg] at h1; exact (gx.no h1).elim
      | some y =>
        rw [hg] at h1
        obtain ⟨v, k1, k2⟩ := Zi9 g3 g4 hg
        obtain ⟨k3, k4⟩ := (hF C hc).ex c g2
        exact ⟨a, c, dx, fs, v, rfl, g1, k3, k4, k1, hk y v F1 H1 h1 e1 eh1 s1 k2⟩
    · exact (gx.no h1).elim) hG⟩⟩
theorem Znj {pl : Sem Bool} {nw : Option (List Str)} {mt : Str -> Option (List D -> R Unit D)} (hF : ∀ C mf, mt C = some mf -> MethC X.prog X.w K X.mg X.base k C m nw mf) (h : AE X K E xF xb env o c1) (ha : AC X K E xF xb env es cs) (hr : Room k X.A) (hG : Quiet X.A) (hx : ∀ σ, PassesAt (L2.CX X.prog X.w) X σ (E σ))
    (ht : eval (.Call (.Attribute o m apos) es [] pos) X.env = (do
      let ov ← eval o X.env
      standAt apos.atName
      let (f, first) ← holding [ov] (getMethod ov m pl)
      callWith pos f first (backTo pos (starEach es X.env)) (backToKw pos (keywordEach [] X.env)))) :
    AJ K E xF xb env (teC X (.Call (.Attribute o m apos) es [] pos)) (fun B F H σ v d => rR K nw B F H σ env v d) (fun (k : D -> R β γ) => c1 fun d => Zi mt m d fun mf => cs fun ds => R.call (mf (d :: ds)) xb k) := fun B F H σ Q k2 G s w gx hk hG' => by
  have hK := h.1
  subst hK
  refine ⟨fun σ' H' Q' => σ' = σ ∧ teC X o σ H' fun v H1 => ∃ a c dx fs g mf, v = .ref a ∧ H1 a = some (.ins c dx fs) ∧ fs.lookup m = none ∧ Cls X.K c ∧ Meth X.K c m g ∧ PrP X.prog X.w X.K X.mg X.base k g nw mf ∧ tcC X es σ H1 fun vs H2 => ∃ n, spM X.K (mk0 n) nw (Lp mf) (.ref a :: vs) H2 Q' (E σ), ⟨fun pins s' σ' H' Q' I ⟨e1, h1⟩ => ?_⟩, rfl, ?_⟩
  · subst e1
    refine PySem.W.methodCall_KW (pl := pl) (thn (pe_C.run pins s' _ H' _ I h1) fun u s1 ⟨v, H1, I1, rx, a, c, dx, fs, g, mf, ex, ea, l, k1, k2, k3, k4⟩ => ?_) ht
    subst ex
    obtain rfl : u = Value.ref a := rx
    refine getmeth_ok I1 ea k1 k2 l ?_
    exact cw_C pos (.ref g) [.ref a] pins s1 _ H1 _ _ k2.kp I1 k4 fun us vs H2 s2 I2 r ⟨n, q⟩ => runP (us := .ref a :: us) (vs := .ref a :: vs) (k3 n) hr hG (hx _) I2 (.cons rfl r) q
  · refine h.2 B F H σ _ _ G s w gx (fun d v F1 H1 h1 e1 eh1 s1 d1 => ?_) hG'
    cases d <;> first | exact (gx.no h1).elim | skip
    rename_i C gs
    have h1 : G (if (gs.lookup m).isNone then R.lft (mt C) fun mf => cs fun ds => R.call (mf (.obj C gs :: ds)) xb k2 else .no) := h1
    split at h1
    case isFalse => exact (gx.no h1).elim
    rename_i l
    cases hm : mt C with
    | none => rw [hm] at h1; exact (gx.no h1).elim
    | some mf =>
      rw [hm] at h1
      have d0 := d1
      obtain ⟨a, c, dx, fs, rfl, g1, g2, g3, g4⟩ := (Dh.obj s1.ex (.inl d1))
      obtain ⟨k1, g, k3, k4⟩ := (hF C mf hm).ex c g2
      refine ⟨a, c, dx, fs, g, mf, rfl, g1, Zf5 g3 l, k1, k3, k4, ha.2 B F1 H1 σ _ _ G s1 w (gx.mono e1) (fun ds vs F2 H2 h2 e2 eh2 s2 d2 => ?_) h1⟩
      exact ⟨ds.length + 1, Z55 (ds := .obj C gs :: ds) s2 w (gx.mono (e1.trans e2)) (.cons (d0.mono e2) d2) (fun _ => rfl) (fun d v F' H' g e3 eh3 s3 r3 => hk d v F' H' g (e1.trans (e2.trans e3)) (eh1.trans (eh2.trans eh3)) s3 r3) h2⟩
theorem Z15 {pl : Sem Bool} {mt : Str -> Option (List D -> R Unit D)} (hF : ∀ C mf, mt C = some mf -> MethC X.prog X.w K X.mg X.base k C m none mf) (h : AE X K E xF xb env o c1) (ha : AC X K E xF xb env es cs) (hr : Room k X.A) (hG : Quiet X.A) (hx : ∀ σ, PassesAt (L2.CX X.prog X.w) X σ (E σ))
    (ht : eval (.Call (.Attribute o m apos) es [] pos) X.env = (do
      let ov ← eval o X.env
      standAt apos.atName
      let (f, first) ← holding [ov] (getMethod ov m pl)
      callWith pos f first (backTo pos (starEach es X.env)) (backToKw pos (keywordEach [] X.env))) := by rfl) :
    AE X K E xF xb env (.Call (.Attribute o m apos) es [] pos) (fun (k : D -> R β γ) => c1 fun d => Zi mt m d fun mf => cs fun ds => R.call (mf (d :: ds)) xb k) := ⟨h.1, Znj (nw := none) hF h ha hr hG hx ht⟩
theorem Zni {pl : Sem Bool} {nw : Option (List Str)} {mf : List D -> R Unit D} (hF : StatC X.prog X.w K X.mg X.base k x m nw mf) (ha : AC X K E xF xb env es cs) (hr : Room k X.A) (hG : Quiet X.A) (hx : ∀ σ, PassesAt (L2.CX X.prog X.w) X σ (E σ)) (hg : Gl X x) (hdb : (x == ("__debug__" : Str)) = false)
    (ht : eval (.Call (.Attribute (.Name x p) m apos) es [] pos) X.env = (do
      let ov ← eval (.Name x p) X.env
      standAt apos.atName
      let (f, first) ← holding [ov] (getMethod ov m pl)
      callWith pos f first (backTo pos (starEach es X.env)) (backToKw pos (keywordEach [] X.env)))) :
    AJ K E xF xb env (teC X (.Call (.Attribute (.Name x p) m apos) es [] pos)) (fun B F H σ v d => rR K nw B F H σ env v d) (fun (k : D -> R β γ) => cs fun ds => R.call (mf ds) xb k) := fun B F H σ Q k2 G s w gx hk hG' => by
  have hK := ha.1
  subst hK
  obtain ⟨c, mc, pp, f, rest, h1, h2, h3, h4, h5, h6⟩ := hF.ex
  refine ⟨fun σ' H' Q' => σ' = σ ∧ tcC X es σ H' fun vs H2 => ∃ n, spM X.K (mk0 n) nw (Lp mf) vs H2 Q' (E σ), ⟨fun pins s' σ' H' Q' I ⟨e1, ht'⟩ => ?_⟩, rfl, ?_⟩
  · subst e1
    refine PySem.W.methodCall_KW (pl := pl) (ld_glob I hg h1 ?_ hdb) ht
    refine PySem.W.method_cls I.kIn h2.ga (PySem.W.cls_bind I.kIn h2.rd h3 (wpAny_call (PySem.W.sm_get (s := { s' with toks := s'.toks + 1 }) I.kIn h4 (PySem.W.handed_on rfl ?_))))
    exact cw_C pos (.ref f) [] pins _ _ H' _ _ h5 (I.tok _) ht' fun us vs H2 s2 I2 r ⟨n, q⟩ => runP (h6 n) hr hG (hx _) I2 r q
  · exact ha.2 B F H σ _ _ G s w gx (fun ds vs F1 H1 h1 e1 eh1 s1 d1 => ⟨ds.length, Z55 s1 w (gx.mono e1) d1 (fun _ => rfl) (fun d v F' H' g e2 eh2 s2 r2 => hk d v F' H' g (e1.trans e2) (eh1.trans eh2) s2 r2) h1⟩) hG'
theorem Zqr {pl : Sem Bool} {mf : List D -> R Unit D} (hF : StatC X.prog X.w K X.mg X.base k x m none mf) (ha : AC X K E xF xb env es cs) (hr : Room k X.A) (hG : Quiet X.A) (hx : ∀ σ, PassesAt (L2.CX X.prog X.w) X σ (E σ)) (hg : Gl X x) (hdb : (x == ("__debug__" : Str)) = false := by decide)
    (ht : eval (.Call (.Attribute (.Name x p) m apos) es [] pos) X.env = (do
      let ov ← eval (.Name x p) X.env
      standAt apos.atName
      let (f, first) ← holding [ov] (getMethod ov m pl)
      callWith pos f first (backTo pos (starEach es X.env)) (backToKw pos (keywordEach [] X.env))) := by rfl) :
    AE X K E xF xb env (.Call (.Attribute (.Name x p) m apos) es [] pos) (fun (k : D -> R β γ) => cs fun ds => R.call (mf ds) xb k) := ⟨ha.1, Zni (nw := none) hF ha hr hG hx hg hdb ht⟩
theorem Zoh {B : Bs} {F H : Hp} {σ : L2.St} {vs : List V} {ds : List D} {Q : VK} {Ek : XK} {mf : List D -> R Unit (D × D)} {C : Str} {c q dx : Addr} {fs : List Str} (s : SR K B F H σ env) (hq : H q = none) (hdx : H dx = none) (hne : dx ≠ q) (hC : Cl K C c) (hA : DrA K F vs ds) (hn : ds.length = n)
    (hok : ∀ d o', mf (.obj C [] :: ds) = .ok (d, o') -> ∀ v F' H', Ex F F' -> Ex H H' -> SR K B F' H' σ env -> Dr K F' v d -> rN K B F' H' σ env (.ref q) o' fs -> Q v H')
    (hex : ∀ x u, mf (.obj C [] :: ds) = .ex x u -> ∀ cl dd F' H', Ex F F' -> SR K B F' H' σ env -> XR K F' x cl dd -> Ek cl dd H') (hno : mf (.obj C [] :: ds) ≠ .no) : spM K (some fs :: mk0 n) none (L1e mf) (.ref q :: vs) (upd (upd H dx (.own q)) q (.ins c dx [])) Q Ek := by
  have hq1 : (upd H dx (HO.own q)) q = none := by rw [upd_ne (Ne.symm hne)]; exact hq
  have s1 := (s.growH (o := .own q) hdx).growH (o := .ins c dx []) hq1
  generalize hH1 : upd (upd H dx (.own q)) q (.ins c dx []) = H1 at s1 ⊢
  have hHq : H1 q = some (.ins c dx []) := by rw [← hH1, upd_same]
  have hFq : F q = none := s.ex.none hq
  have e01 : Ex H H1 := fun a o h => by
    have n1 : a ≠ q := fun z => by rw [z, hq] at h; cases h
    have n2 : a ≠ dx := fun z => by rw [z, hdx] at h; cases h
    rw [← hH1, upd_ne n1, upd_ne n2]
    exact h
  have sa := SR.args (B' := ⟨F, H1, fun a => a = q, Z33 (.ref q :: vs)⟩) s1.ex hA rfl rfl
  have hargs : Z3h (.obj C [] :: ds) (some fs :: mk0 n) 0 = .ow (some 0) (.obj C []) fs :: ds.map .fz := by
    show .ow (some 0) (.obj C []) fs :: Z3h ds (mk0 n) 1 = _
    rw [Z80 hn]
  have s0 : SR K ⟨F, H1, fun a => a = q, Z33 (.ref q :: vs)⟩ F H1 ((V.ref q :: vs).map some) (.ow (some 0) (.obj C []) fs :: ds.map .fz) := by
    refine ⟨s1.ex, Ex.refl F, fun _ _ h _ => h, fun a o h => Or.inl fun z => ?_, by simp [hA.length], fun j d h => ?_, fun j a d gs h => ?_, fun j => if j = 0 then [q] else [], fun j t' d f' h => ?_, fun j k t1 t2 d1 d2 f1 f2 hjk g1 g2 a a1 a2 => ?_⟩
    · have z' : F a = none := z
      rw [h] at z'; cases z'
    · cases j with
      | zero => cases h
      | succ j => exact sa.fz j d h
    · cases j with
      | zero => cases h
      | succ j => exact sa.xc j a d gs h
    · cases j with
      | zero =>
        cases h
        refine ⟨q, rfl, ?_, fun a ha => ?_, fun k hk => by cases hk; rfl⟩
        · exact Own.ob hHq hC OwF.nil
        · have ha : a ∈ [q] := ha
          cases ha with
          | head => exact ⟨hFq, Or.inr rfl⟩
          | tail _ h => cases h
      | succ j =>
        obtain ⟨d', _, z⟩ := Z96 (show fget (ds.map Sl.fz) j = _ from h) fun z => nomatch z
        cases z
    · cases j with
      | zero =>
        cases k with
        | zero => exact hjk rfl
        | succ k => simp at a2
      | succ j => simp at a1
  have hSq : ∀ a ∈ [q], F a = none ∧ (B.H0 a = none ∨ B.ps a) := fun a ha => by
    cases ha with
    | head => exact ⟨hFq, s.new_b hq⟩
    | tail _ h => cases h
  have hnq : ∀ ft, Hs K B F H1 σ env ft -> ∀ a ∈ [q], ¬ owned env ft a := fun ft hf a ha z => by
    cases ha with
    | tail _ h => cases h
    | head =>
      obtain ⟨ft0, hf0⟩ := s.own
      obtain ⟨i, t, d2, f2, g1, g2⟩ := z
      obtain ⟨q0, q1, q2, _⟩ := hf0.ow i t d2 f2 g1
      obtain ⟨q', r1, r2, _⟩ := hf.ow i t d2 f2 g1
      rw [q1] at r1
      cases r1
      exact Zb2 q2 e01 r2 _ g2 hq
  have back : ∀ {F' H' : Hp} {as : Fm}, SR K ⟨F, H1, fun a => a = q, Z33 (.ref q :: vs)⟩ F' H' ((V.ref q :: vs).map some) as -> SR K B F' H' σ env := fun {F' H' as} r =>
    s1.afterS (S := [q]) hSq hnq r rfl rfl fun a z => by cases z; exact List.mem_cons_self
  have exH : ∀ {F' H' : Hp} {as : Fm}, SR K ⟨F, H1, fun a => a = q, Z33 (.ref q :: vs)⟩ F' H' ((V.ref q :: vs).map some) as -> Ex H H' := fun {F' H' as} r a o h => r.keep a o (e01 a o h) fun z => by
    have z : a = q := z
    rw [z, hq] at h; cases h
  refine ⟨by simp [hA.length, hn], F, .obj C [] :: ds, fun a => a = q, by simp [hn], by rw [hargs]; exact s0, ?_⟩
  cases hm : mf (.obj C [] :: ds) with
  | no => exact absurd hm hno
  | ex y u =>
    have : L1e mf (.obj C [] :: ds) = .ex y [] := by unfold L1e; rw [hm]
    rw [this]
    exact fun cl dd F' H' e1 r x1 => hex y u hm cl dd F' H' e1 (back r) x1
  | ok w =>
    obtain ⟨d, o'⟩ := w
    have : L1e mf (.obj C [] :: ds) = .ok (d, [o']) := by unfold L1e; rw [hm]
    rw [this]
    intro v F' H' e1 r d1
    have r' : SR K ⟨F, H1, fun a => a = q, Z33 (.ref q :: vs)⟩ F' H' ((V.ref q :: vs).map some) (.ow (some 0) o' fs :: Z11 [] (mk0 n) 1) := r
    refine hok d o' hm v F' H' e1 (exH r) (back r) d1 ?_
    obtain ⟨ft', hf'⟩ := r'.own
    obtain ⟨p3, g1, g2, g3, g4⟩ := hf'.ow 0 (some 0) o' fs rfl
    have : some (some (V.ref q)) = some (some (V.ref p3)) := g1
    cases this
    have hnew : ∀ a ∈ ft' 0, H a = none := fun a ha => by
      rcases (g3 a ha).2 with z | z
      · exact e01.none z
      · have z : a = q := z
        rw [z]; exact hq
    refine ⟨q, ft' 0, rfl, g2, fun a ha => ⟨(g3 a ha).1, s.new_b (hnew a ha)⟩, fun ft hf a ha z => ?_⟩
    obtain ⟨ft0, hf0⟩ := s.own
    obtain ⟨i, t, d2, f2, k1, k2⟩ := z
    obtain ⟨q0, q1, q2, _⟩ := hf0.ow i t d2 f2 k1
    obtain ⟨q', r1, r2, _⟩ := hf.ow i t d2 f2 k1
    rw [q1] at r1
    cases r1
    exact Zb2 q2 (exH r) r2 a k2 (hnew a ha)
theorem runM {C f : Addr} {sp : Sp} {Ek : XK} {pins : List (Addr × Obj)} {σ : L2.St} {H : Hp} {s : Shared} {Q : VK} {us : List Value} {vs : List V} (M : Mk X.K C f) (F : FnP X.prog X.w X.K X.mg X.base k f sp) (hr : Room (k + 1) X.A) (hG : Quiet X.A) (hx : PassesAt (L2.CX X.prog X.w) X σ Ek) (I : Inv X pins σ H s) (r : Vals vs us)
    (h : ∀ q dx, H q = none -> H dx = none -> dx ≠ q -> sp (V.ref q :: vs) (upd (upd H dx (.own q)) q (.ins C dx [])) (fun v H2 => v = .non ∧ Q (.ref q) H2) Ek) : wpAny (model X.prog X.w) X.A (call (.ref C) us) (EP X pins σ Q) X.xe s := by
  have hq := h (s.heap.objs.size + 1) s.heap.objs.size (I.hok.fresh (Nat.le_succ _)) (I.hok.fresh (Nat.le_refl _)) (Nat.ne_of_lt (Nat.lt_succ_self _))
  have I2 := Inv.made (C := C) I
  refine wpAny_call (make_map (f := f) I.kIn M.makes M.init (beq_iff_eq.mp M.fn) (codeAny_mono (F _ X.stack _ _ (Value.ref (s.heap.objs.size + 1) :: us) (V.ref (s.heap.objs.size + 1) :: vs) _ Ek (hr.make C us []) hG (I2.env0.make C us []) (.cons rfl r) hq) fun r s' hq' => ?_))
  match r, hq' with
  | .error e, hq' => exact hx pins _ _ e s' I2 hq'
  | .ok (.ret u), hq' =>
    obtain ⟨v, H', I3, rv, ev, q3⟩ := I2.after hq'
    subst ev
    exact ⟨rv, ⟨V.ref (s.heap.objs.size + 1), H', I3, rfl, q3⟩⟩
  | .ok .next, hq' | .ok .brk, hq' | .ok .cont, hq' => exact False.elim hq'
theorem Zqu {fs : List Str} {mf : List D -> R Unit (D × D)} (hF : MakeC X.prog X.w K X.mg X.base k x fs mf) (ha : AC X K E xF xb env es cs) (hr : Room (k + 1) X.A) (hG : Quiet X.A) (hx : ∀ σ, PassesAt (L2.CX X.prog X.w) X σ (E σ)) (hg : Gl X x)
    (hdb : (x == ("__debug__" : Str)) = false := by decide) : AN X K E xF xb env fs (.Call (.Name x p) es [] pos) (fun (k : D -> R β γ) => cs fun ds => R.make (mf (.obj x [] :: ds)) xb k) :=
  ⟨ha.1, fun B F H σ Q k2 G s w gx hk hG' => by
    have hK := ha.1
    subst hK
    obtain ⟨c, f, h1, h2, h3, h4⟩ := hF.ex
    refine ⟨fun σ' H' Q' => σ' = σ ∧ tcC X es σ H' fun vs H1 => ∃ n, ∀ q dx, H1 q = none -> H1 dx = none -> dx ≠ q -> spM X.K (some fs :: mk0 n) none (L1e mf) (V.ref q :: vs) (upd (upd H1 dx (.own q)) q (.ins c dx [])) (fun v H2 => v = .non ∧ Q' (.ref q) H2) (E σ), ⟨fun pins s' σ' H' Q' I ⟨e1, h⟩ => ?_⟩, rfl, ?_⟩
    · subst e1
      refine wpAny_Call_Name_kw (ld_glob I hg h1 ?_ hdb)
      exact cw_C pos (.ref c) [] pins s' _ H' _ _ h3.kp I h fun us vs H1 s1 I1 r ⟨n, q⟩ => runM h3 (h4 n) hr hG (hx _) I1 r q
    · refine ha.2 B F H σ _ _ G s w gx (fun ds vs F1 H1 g1 e1 eh1 s1 d1 => ⟨ds.length, fun q dx hq hdx hne => ?_⟩) hG'
      refine Zoh s1 hq hdx hne h2 d1 rfl (fun d o' hm v F' H' e2 eh2 s2 d2 r2 => ?_) (fun y u hm cl dd F' H' e2 s2 x2 => ?_) fun z => ?_
      · have g1' : G (R.make (mf (.obj x [] :: ds)) xb k2) := g1
        rw [hm] at g1'
        cases d <;> first | exact (gx.no g1').elim | skip
        cases d2
        exact ⟨rfl, hk o' _ F' H' g1' (e1.trans e2) (eh1.trans eh2) s2 r2⟩
      · have g1' : G (R.make (mf (.obj x [] :: ds)) xb k2) := g1
        rw [hm] at g1'
        exact gx.ex y g1' cl dd F' H' (e1.trans e2) (s2.wk w) x2
      · have g1' : G (R.make (mf (.obj x [] :: ds)) xb k2) := g1
        rw [z] at g1'
        exact gx.no g1'⟩
end
section
variable {X : Cx} {K : PySem.W.Frag} {E : XE} {β ω : Type} {κ : Kt β ω} {env : Fm} {pos : Pos} {rest : List Stmt} {tag : Option Nat} {e : Expr}
def R.putF (cl : Str -> Bool) (f : Str) (d y : D) (k : D -> R β ω) : R β ω := match d with
  | .obj C gs => if cl C && decide (gs.length < 1000) then k (.obj C (putD f y gs)) else .no
  | _ => .no
theorem Zis (i : Nat) {x f : Str} {d : D} (hi : fget env i = .ow tag d []) {c : (D -> R β ω) -> R β ω} {m : D -> R β ω} {p1 p2 : Pos} (xb : β) {cl : Str -> Bool} (hF : ∀ C, cl C = true -> FldC K C f) (he : AE X K E (κ.fx xb) xb env e c) (hx : Wk env (κ.fx xb)) (hr : ∀ d, AB X K E κ (fput env i (.ow tag d [])) rest (m d))
    (hN : X.N[i]? = some x := by rfl) (hv : Vis X.env.scope x := by first | exact Or.inl rfl | exact Or.inr (Or.inl rfl) | exact Or.inr (Or.inr rfl)) (hd : (x == ("__debug__" : Str)) = false := by decide) (hcd : (x == ("__classdict__" : Str)) = false := by decide)
    (hs : swapsWith e (some (.Attribute (.Name x p1) f p2)) pos.line X.env = pure false := by rfl) :
    AB X K E κ env (.Assign [.Attribute (.Name x p1) f p2] e pos :: rest) (c fun y => R.putF cl f d y m) := by
  refine ⟨he.1, fun B F H σ Dn G sr gs hG => ⟨_, pss_cons (ps_fld (pe_var hN hv hd hcd) pe_C hs) ps_C, ?_⟩⟩
  have hK := he.1
  subst hK
  refine he.2 B F H σ _ _ G sr hx (gs.gx xb) (fun y v F1 H1 g1 e1 eh1 s1 d1 => ?_) hG
  obtain ⟨p, o, q1, q2, q3⟩ := s1.cell0 hi
  refine ⟨.ref p, q1, ?_⟩
  cases q3 with
  | lst _ => exact (gs.no g1).elim
  | dct _ _ => exact (gs.no g1).elim
  | obj hC hn hA =>
    rename_i c0 dx C fs gs'
    have g1 : G (if cl C && decide (gs'.length < 1000) then m (.obj C (putD f y gs')) else .no) := g1
    split at g1
    case isFalse => exact (gs.no g1).elim
    rename_i hc
    rw [Bool.and_eq_true] at hc
    obtain ⟨k1, k2⟩ := (hF C hc.1).ex c0 hC
    obtain ⟨t1, t2⟩ := Zi7 (f := f) d1 hn hA
    obtain ⟨p4, o4, k4, k5, k6, k7⟩ := s1.cell (d' := .obj C (putD f y gs')) (o' := .ins c0 dx (L2.putF f v fs)) hi (.obj hC t1 t2)
    rw [q1] at k4
    cases k4
    have hlen : fs.length = gs'.length := by simpa using congrArg List.length hn
    exact ⟨p, c0, dx, fs, rfl, q2, k1, k2, by rw [hlen]; exact of_decide_eq_true hc.2, (hr _).2 B F1 _ σ Dn G k7 (gs.mono e1) g1⟩
end
end DM
namespace DX
open PySem PySem.W PySem.Calls PyProof.Rows PySem.HandSPX
section
variable {prog : Program} {w : World} {A : Around} {E : Value -> Shared -> Prop} {h : Heap} {g : Array GenState} {d : Drawn} {t : Nat} {os : OsState} {K : Frag} {mg : Str -> Option Value} {C D x f cc cda L : Addr}
theorem Zlu {body : List Stmt} {qn : Str} {sc : Scope} {p0 p1 : Pos} {whole : Sem Value} {fd : FuncData} {ar : Arg} {vs : Array Value} {file : Str} {tf : Tok} {of oc ox oD : Obj} {cdD : ClassData} {m mb : Str -> Option Value} {Q : Value -> Shared -> Prop}
    (hn : h.Ns L m) (hv : m ar.arg = some (.ref x)) (hf : h.get? f = some of) (hfd : of.data = .func fd) (hp : (fd.params.posonlyargs ++ fd.params.args).head? = some ar) (hcc : h.get? cda = some oc) (hoc : oc.data = .fields vs) (hvs : vs[2]? = some (.str file tf))
    (hfile : ((prog.main.file : Str) == file) = true) (htop : (prog.main.scope.names.lookup ("super" : Str)).isSome = false) (hG : h.Ns mainGlobals mg) (hms : mg "super" = none) (hB : h.Ns builtinsNs mb) (hbs : mb "super" = some (.type "super"))
    (hcell : ∃ o, h.get? cc = some o ∧ o.data = .cell (some (.ref D))) (hD : h.get? D = some oD) (hDd : oD.data = .cls cdD) (hx : h.get? x = some ox) (hxc : ox.cls = .ref C) (hnc : ∀ c, ox.data ≠ .cls c) (hsub : Looks (model prog w) h (isSubtype (.ref C) (.ref D)) true)
    (hk : sc.kind = .function) (k1 : sc.names.lookup ("super" : Str) = some .globalImplicit) (k2 : sc.names.lookup ("__class__" : Str) = some .free) (k3 : sc.names.lookup ar.arg = some .local)
    (hq : ∀ h', h'.get? h.objs.size = some (ks_superObj D x C) -> (∀ b o, h.get? b = some o -> h'.get? b = some o) -> Q (.ref h.objs.size) ⟨h', g, d, t, os⟩) :
    _root_.PySem.wpAt (model prog w) A (.func body (ksEnv qn sc L f (.ref cda) cc)) (attributeBase (.Call (.Name "super" p0) [] [] p1) "__init__" (ksEnv qn sc L f (.ref cda) cc) whole) Q E ⟨h, g, d, t, os⟩ := by
  refine ks_wpAt_super_base (env := ksEnv qn sc L f (.ref cda) cc) k1 k2 (by decide) rfl hf hfd hp rfl hcc hoc hvs hfile htop ?_
  refine ks_loadName_global hk k1 (loadGlobal_builtin (env := ksEnv qn sc L f (.ref cda) cc) hG hms hB hbs ⟨rfl, ?_⟩)
  refine wpAny_loadName_free hk k2 rfl ⟨_, hcell.choose_spec.1, hcell.choose_spec.2⟩ ?_
  refine wpAny_loadName_local hk k3 hn hv ?_
  refine ks_wpAny_isType_cls hD hDd ⟨rfl, ?_⟩
  exact ks_wpAny_call_super hD hDd hx hxc hnc hsub fun h' e k => hq h' e k
theorem Zp8 {B i newId : String} {bmB : List Value} {u t0 : Addr} {nm q : Str} {N : Addr} {bs bm : List Value} {hdct : Bool} {sn : List Str} {sub : List Value} {ab : Bool} {col : Option Bool} {dd : Option Addr} {k0 k1 k2 k3 k5 : Option Value} {rest : List Value} {Q : Value -> Shared -> Prop} (FB : ExcBaseFacts B newId i bmB)
    (hC : h.get? C = some (excClassObj nm q C N bs bm hdct sn sub ab col dd k0 k1 k2 k3 k5 newId)) (he : h.get? x = some (excO C t0)) (hu : h.get? u = some (kxs_mw i x)) (hz : rest.length ≤ sizeLine)
    (hq : ∀ h' t1, (∀ b o, b ≠ x -> h.get? b = some o -> h'.get? b = some o) -> h'.get? x = some (excO C t1) -> Q .none ⟨h', g, d, t, os⟩) :
    wpAny (model prog w) A (call (.ref u) rest) Q E ⟨h, g, d, t, os⟩ := by
  refine wpAny_call (codeAny_of_tree ?_)
  show wpAny _ A.in1 (callAny (.ref u) ⟨rest, []⟩) _ _ _
  simp only [callAny]
  refine wpAny_bind (wpAny_load hu ?_)
  simp only [kxs_mw, show (Value.type "method-wrapper" == Value.type "method" || Value.type "method-wrapper" == Value.type "builtin_function_or_method" || Value.type "method-wrapper" == Value.type "method-wrapper") = true by decide, if_true]
  refine KFB.if_so (by decide) ?_
  refine wpAny_bind (check_bound_init FB.toExcCallFacts hC he rfl (wpAny_bind (wpAny_pure (wpAny_pure ?_))))
  refine ⟨plainId_quiet FB.init.plain _, codeAny_builtin FB.initEntry ?_⟩
  exact exc_init_tree (cls := .ref C) (t0 := t0) (dv := none) (c2 := .none) (c3 := .none) (b4 := .bool false) he hz fun h' k e1 _ => hq h' _ k e1
theorem Zbi {B i newId : String} {bmB : List Value} {t0 : Addr} {nm q : Str} {N : Addr} {bs bm : List Value} {sn : List Str} {sub : List Value} {ab : Bool} {col : Option Bool} {dd : Option Addr} {k0 k1 k2 k3 k5 : Option Value} {body : List Stmt} {qn : Str} {e : Expr} {es : List Expr} {sc : Scope} {q1 q2 q3 q5 : Pos} {fd : FuncData} {ar : Arg} {vs : Array Value} {file : Str} {tf : Tok} {of oc oD : Obj} {cdD cdC : ClassData} {m mb : Str -> Option Value} {us : List Value} {Q : Value -> Shared -> Prop}
    (FB : ExcBaseFacts B newId i bmB) (KF : KxsFacts B i) (X : K.In h) (hC : K.lookup C = some (excClassObj nm q C N bs bm true sn sub ab col dd k0 k1 k2 k3 k5 newId)) (he : h.get? x = some (excO C t0))
    (hn : h.Ns L m) (hv : m ar.arg = some (.ref x)) (hf : h.get? f = some of) (hfd : of.data = .func fd) (hp : (fd.params.posonlyargs ++ fd.params.args).head? = some ar) (hcc : h.get? cda = some oc) (hoc : oc.data = .fields vs) (hvs : vs[2]? = some (.str file tf))
    (hfile : ((prog.main.file : Str) == file) = true) (htop : (prog.main.scope.names.lookup ("super" : Str)).isSome = false) (hG : h.Ns mainGlobals mg) (hms : mg "super" = none) (hB : h.Ns builtinsNs mb) (hbs : mb "super" = some (.type "super"))
    (hcell : ∃ o, h.get? cc = some o ∧ o.data = .cell (some (.ref D))) (hD : h.get? D = some oD) (hDd : oD.data = .cls cdD) (hsub : subIn K (.ref C) (.ref D) = some true) (hsB : subIn K (.ref C) (.type B) = some true) (hop : nsIn K cStatics "thirdparty.any" = some none) (hcl : clsIn K C = some cdC) (hsu : ks_superIn K C D "__init__" = some (some (.builtin i)))
    {pl : Sem Bool} (hev : eval (.Call (.Attribute (.Call (.Name "super" q1) [] [] q2) "__init__" q3) (e :: es) [] q5) (ksEnv qn sc L f (.ref cda) cc) = (do
      let ov ← attributeBase (.Call (.Name "super" q1) [] [] q2) "__init__" (ksEnv qn sc L f (.ref cda) cc) (eval (.Call (.Name "super" q1) [] [] q2) (ksEnv qn sc L f (.ref cda) cc))
      standAt q3.atName
      let (fn, first) ← holding [ov] (getMethod ov "__init__" pl)
      callWith q5 fn first (backTo q5 (starEach (e :: es) (ksEnv qn sc L f (.ref cda) cc))) []))
    (hargs : ∀ (h' : Heap) (t' : Nat) (Q' : List Value -> Shared -> Prop), (∀ b o, h.get? b = some o -> h'.get? b = some o) -> Q' us ⟨h', g, d, t', os⟩ -> wpAny (model prog w) A (spliced (backTo q5 (starEach (e :: es) (ksEnv qn sc L f (.ref cda) cc)))) Q' E ⟨h', g, d, t', os⟩)
    (hst : starEach (e :: es) (ksEnv qn sc L f (.ref cda) cc) = (false, eval e (ksEnv qn sc L f (.ref cda) cc)) :: starEach es (ksEnv qn sc L f (.ref cda) cc)) (hpl : (backTo q5 (starEach es (ksEnv qn sc L f (.ref cda) cc))).any (·.1) = false)
    (hk : sc.kind = .function) (n1 : sc.names.lookup ("super" : Str) = some .globalImplicit) (n2 : sc.names.lookup ("__class__" : Str) = some .free) (n3 : sc.names.lookup ar.arg = some .local) (hz : us.length ≤ sizeLine)
    (hq : ∀ h' t' t1, (∀ b o, b ≠ x -> h.get? b = some o -> h'.get? b = some o) -> h'.get? x = some (excO C t1) -> Q .none ⟨h', g, d, t', os⟩) :
    _root_.PySem.wpAt (model prog w) A (.func body (ksEnv qn sc L f (.ref cda) cc)) (eval (.Call (.Attribute (.Call (.Name "super" q1) [] [] q2) "__init__" q3) (e :: es) [] q5) (ksEnv qn sc L f (.ref cda) cc)) Q E ⟨h, g, d, t, os⟩ := by
  refine ks_wpAt_MethodCall (Zlu hn hv hf hfd hp hcc hoc hvs hfile htop hG hms hB hbs hcell hD hDd he rfl (fun c z => by cases z) (looks_subIn X hsub) hk n1 n2 n3 fun h2 e2 k2 => ?_) hev
  have X2 : K.In h2 := X.keeps k2
  have he2 := k2 _ _ he
  have I2 : InstAt h2 x (excO C t0) C none := ⟨he2, rfl, rfl, trivial⟩
  have hm2 : alongIn K "__init__" ((cdC.mro.dropWhile (· != .ref D)).drop 1) = some (some (.builtin i)) := by unfold ks_superIn at hsu; rw [hcl] at hsu; exact hsu
  refine kxs_getMethod KF e2 (looks_opaque X2 hop) (l₀ := cdC.mro) (fun A Q E s k z => wpAny_bind ((looks_clsIn X2 hcl) A _ E s k (wpAny_pure z))) rfl X2 hm2 (I2.type.andThen (looks_subIn X2 hsB)) (ks_ne X2 I2 hcl) (by decide) ?_
  have k3 : ∀ b o, h2.get? b = some o -> (h2.push (kxs_mw i x)).get? b = some o := fun b o z => Heap.get?_push_of_some _ z
  have hu : (h2.push (kxs_mw i x)).get? h2.objs.size = some (kxs_mw i x) := Heap.get?_push_at rfl rfl
  have hx3 := k3 _ _ he2
  have hne : h2.objs.size ≠ x := Nat.ne_of_gt (Heap.lt_size he2)
  show wpAny (model prog w) A (callWith q5 (.ref h2.objs.size) [] (backTo q5 (starEach (e :: es) (ksEnv qn sc L f (.ref cda) cc))) []) Q E _
  have hargs2 := hargs (h2.push (kxs_mw i x)) (t + 1) (fun vs s₁ => KxsAt i h2.objs.size x s₁.heap ∧ wpAny (model prog w) A (call (.ref h2.objs.size) vs) Q E s₁) (fun b o z => k3 b o (k2 b o z)) ⟨hu, Zp8 FB ((X2.keeps k3) _ _ hC) hx3 hu hz fun h' t1 k4 hx4 => hq h' _ t1 (fun b o hb z => k4 b o hb (k3 b o (k2 b o z))) hx4⟩
  rw [hst] at hargs2 ⊢
  refine kxs_callWith (i := i) (x := x) (by show (false || (backTo q5 (starEach es (ksEnv qn sc L f (.ref cda) cc))).any (·.1)) = false; rw [hpl]; rfl) ?_
  exact evalArgs_plain hargs2
end
def Z85 (bmB : List Value) : List Value -> Bool
  | .ref _ :: r => Z85 bmB r
  | l => l == bmB
theorem Z7d {bmB : List Value} (X : String) : ∀ {l : List Value}, Z85 bmB l = true -> l.contains (.type X) = bmB.contains (.type X)
  | [], h => by rw [show ([] : List Value) = bmB from beq_iff_eq.mp h]
  | v :: r, h => by
    cases v with
    | ref a =>
      have h : Z85 bmB r = true := h
      rw [List.contains_cons, Z7d X h]
      rfl
    | _ => rw [← show _ = bmB from beq_iff_eq.mp h]
theorem Z9t {bmB : List Value} (self : Value) (what : Str) : ∀ {l : List Value}, Z85 bmB l = true -> refuseLoop self what l = refuseLoop self what bmB
  | [], h => by rw [show ([] : List Value) = bmB from beq_iff_eq.mp h]
  | v :: r, h => by
    cases v with
    | ref a =>
      have h : Z85 bmB r = true := h
      rw [refuseLoop_ref, Z9t self what h]
    | _ => rw [← show _ = bmB from beq_iff_eq.mp h]
structure BaseF (B newId i : String) (bmB : List Value) : Prop where
  eb : ExcBaseFacts B newId i bmB
  kx : KxsFacts B i
  st : StoreFacts B bmB "object.__setattr__" "object"
  ob : bmB.contains (.type "object") = true
theorem base_VE : BaseF "ValueError" "ValueError.__new__" "ValueError.__init__" [.type "ValueError", .type "Exception", .type "BaseException", .type "object"] := ⟨PySem.F.excBase_ValueError, kxs_ValueError, PySem.F.store_ValueError, by decide +kernel⟩
theorem base_LE : BaseF "LookupError" "LookupError.__new__" "LookupError.__init__" [.type "LookupError", .type "Exception", .type "BaseException", .type "object"] := ⟨PySem.F.excBase_LookupError, kxs_LookupError, PySem.F.store_LookupError, by decide +kernel⟩
section
open Builtin Builtin.ObjectAttr
variable {prog : Program} {w : World} {A : Around} {E : Value -> Shared -> Prop} {R : Result -> Shared -> Prop} {hp : Heap} {g : Array GenState} {d : Drawn} {t : Nat} {os : OsState}
theorem Zh4 {B newId i : String} {bmB bm : List Value} (BF : BaseF B newId i bmB) {K : Frag} {name : Str} {tk : Tok} {v : Value} {x C : Addr} {ox : Obj} {od : Option Obj} {cd : ClassData}
    (X : K.In hp) (I : InstAt hp x ox C od) (hcd : clsIn K C = some cd) (hm : cd.mro = .ref C :: bm) (hr : Z85 bmB bm = true) (ha : findIn K (.ref C) name = some none)
    (hq : wpAny (model prog w) A.in1 (storeInOwnDict (.ref x) (.ref C) (.str name tk) name v false)
      (fun fin s' => match fin with | .done f => R (.ok f) s' | .again c' => c'.quiet = true ∧ codeAny (model prog w) A c' R s') (fun e s' => R (.error e) s') ⟨hp, g, d, t, os⟩) :
    codeAny (model prog w) A (.call (.builtin "object.__setattr__") ⟨[.ref x, .str name tk, v], []⟩) R ⟨hp, g, d, t, os⟩ := by
  have SF := PySem.F.store_object
  have hc : (Value.ref C :: bm).contains (.type "object") = true := by rw [List.contains_cons, Z7d _ hr, BF.ob, Bool.or_true]
  have hmo : mroIn K C (.type "object") = some true := by
    unfold mroIn
    rw [hcd, Option.bind_some, hm, if_neg (show ¬ (List.isEmpty (Value.ref C :: bm) = true) from Bool.false_ne_true), hc]
  have hpass : refuseLoop (.ref x) "__setattr__" cd.mro = pure () := by
    rw [hm, refuseLoop_ref, Z9t _ _ hr]
    exact BF.st.passes _
  refine codeAny_call_builtin SF.slot.plain SF.entry (@check_slot (model prog w) _ _ ⟨hp, g, d, t, os⟩ "object.__setattr__" "object" "__setattr__" (.ref x) [.str name tk, v] [] _ SF.kind SF.split (I.type.andThen (looks_mroIn X hmo)) (SF.args (.ref x) (.str name tk) v) ?_)
  rw [osa_eq, refuse_eq]
  refine wpAny_bind (wpAny_bind (I.type.at (wpAny_bind (((looks_clsIn X hcd).andThen .now : Looks (model prog w) hp (mroOf (.ref C)) cd.mro).at ?_))))
  rw [hpass]
  exact wpAny_pure (wpAny_bind (I.type.at (wpAny_bind ((looks_findIn X ha).at (wpAny_bind ((.now : Looks (model prog w) hp (storeTaker? none) none).at hq))))))
theorem osa_new {B newId i : String} {bmB bm : List Value} (BF : BaseF B newId i bmB) {K : Frag} {name : Str} {tk : Tok} {v : Value} {x C : Addr} {fv : Array Value} {cd : ClassData}
    (X : K.In hp) (hx : hp.get? x = some { cls := .ref C, data := .fields fv }) (hcd : clsIn K C = some cd) (hm : cd.mro = .ref C :: bm) (hr : Z85 bmB bm = true) (hh : cd.hasDict = true) (ha : findIn K (.ref C) name = some none)
    (hq : ∀ h' tk' dx, (∀ b o, b ≠ x -> hp.get? b = some o -> h'.get? b = some o) -> hp.objs.size ≤ dx -> dx ≠ x -> h'.get? x = some { cls := .ref C, dict := some dx, data := .fields fv } ->
      h'.Ns1 dx (fun y => if y = name then some v else none) -> R (.ok (.ret .none)) ⟨h', g, d, tk', os⟩) :
    codeAny (model prog w) A (.call (.builtin "object.__setattr__") ⟨[.ref x, .str name tk, v], []⟩) R ⟨hp, g, d, t, os⟩ := by
  have hxs : x ≠ hp.objs.size := Nat.ne_of_lt (Heap.lt_size hx)
  refine Zh4 BF X (ox := { cls := .ref C, data := .fields fv }) (od := none) ⟨hx, rfl, rfl, trivial⟩ hcd hm hr ha ?_
  have hcls : Looks (model prog w) hp (classData C) cd := looks_clsIn X hcd
  obtain ⟨nm, bs, mro, ns, qn, hd, sn, sb, ab, col, del⟩ := cd
  dsimp only at hh
  subst hh
  unfold storeInOwnDict ownDictForStores
  repeat (first | with_reducible refine store_in_new ?_ ?_ | with_reducible refine wpAny_loadPart_at hx ?_ | with_reducible refine hcls.at ?_ | wp_step)
  · exact ⟨_, #[], _, (Heap.get?_update_ne _ _ _ _ hxs.symm).trans (Heap.get?_push_at rfl rfl), rfl, fun e he => absurd he (by simp), fun _ => rfl⟩
  · intro h' tk' hn' hs
    refine hq h' tk' hp.objs.size (fun b o hb ho => ?_) (Nat.le_refl _) hxs.symm ?_ hn'
    · exact (hs.2 b (Nat.ne_of_lt (Heap.lt_size ho))).trans ((Heap.get?_update_ne _ _ _ _ hb).trans (Heap.get?_push_of_some _ ho))
    · exact (hs.2 x hxs).trans (Heap.get?_update_self _ (Heap.get?_push_of_some _ hx) rfl)
theorem osa_old {B newId i : String} {bmB bm : List Value} (BF : BaseF B newId i bmB) {K : Frag} {name : Str} {tk : Tok} {v : Value} {x C dx : Addr} {fv : Array Value} {cd : ClassData} {m0 : Str -> Option Value} {nl : List Str}
    (X : K.In hp) (hx : hp.get? x = some { cls := .ref C, dict := some dx, data := .fields fv }) (hns : hp.Ns1 dx m0) (hw : Within m0 nl) (hz : nl.length ≤ 1000) (hcd : clsIn K C = some cd) (hm : cd.mro = .ref C :: bm) (hr : Z85 bmB bm = true) (hh : cd.hasDict = true)
    (ha : findIn K (.ref C) name = some none)
    (hq : ∀ h' tk', (∀ b o, b ≠ dx -> hp.get? b = some o -> h'.get? b = some o) -> h'.Ns1 dx (fun y => if y = name then some v else m0 y) -> R (.ok (.ret .none)) ⟨h', g, d, tk', os⟩) :
    codeAny (model prog w) A (.call (.builtin "object.__setattr__") ⟨[.ref x, .str name tk, v], []⟩) R ⟨hp, g, d, t, os⟩ := by
  obtain ⟨oD, esD, epD, hoD, hdD, _⟩ := hns.count hw
  refine Zh4 BF X (ox := { cls := .ref C, dict := some dx, data := .fields fv }) (od := some oD) ⟨hx, rfl, rfl, hoD⟩ hcd hm hr ha ?_
  have hcls : Looks (model prog w) hp (classData C) cd := looks_clsIn X hcd
  obtain ⟨nm, bs, mro, ns, qn, hd, sn, sb, ab, col, del⟩ := cd
  dsimp only at hh
  subst hh
  unfold storeInOwnDict ownDictForStores
  repeat (first | with_reducible refine PySem.ESX.store_in_old hns hw hz ?_ | with_reducible refine wpAny_loadPart_at hx ?_ | with_reducible refine hcls.at ?_ | wp_step)
  intro h' tk' hn' hs
  exact hq h' tk' (fun b o hb ho => (hs.2 b hb).trans ho) hn'
end
def pars (ps : List (Str × Pos)) : Arguments := { posonlyargs := [], args := ps.map fun q => { arg := q.1, annotation := none, pos := q.2 }, vararg := none, kwonlyargs := [], kw_defaults := [], kwarg := none, defaults := [] }
def scp (ps : List Str) : Scope := { kind := .function, names := ((("self" : Str), NameKind.local) :: ps.map fun p => (p, NameKind.local)) ++ [(("__class__" : Str), NameKind.free), (("super" : Str), NameKind.globalImplicit)], isGenerator := false, isCoroutine := false, more := [] }
def bd1 (p : Str) (q1 q2 q3 q4 q5 q6 q7 q8 q9 q10 : Pos) : List Stmt :=
  [.Expr (.Call (.Attribute (.Call (.Name "super" q1) [] [] q2) "__init__" q3) [.Name p q4] [] q5) q6, .Assign [.Attribute (.Name "self" q7) p q8] (.Name p q9) q10]
def bd2 (p r : Str) (q1 q2 q3 q4 q4' q5 q6 q7 q8 q9 q10 r7 r8 r9 r10 : Pos) : List Stmt :=
  [.Expr (.Call (.Attribute (.Call (.Name "super" q1) [] [] q2) "__init__" q3) [.Name p q4, .Name r q4'] [] q5) q6, .Assign [.Attribute (.Name "self" q7) p q8] (.Name p q9) q10, .Assign [.Attribute (.Name "self" r7) r r8] (.Name r r9) r10]
def Hev (qn : Str) (sc : Scope) (f cda cc : Addr) (q1 q2 q3 q5 : Pos) (es : List Expr) : Prop := ∀ L : Addr, ∃ pl : Sem Bool, eval (.Call (.Attribute (.Call (.Name "super" q1) [] [] q2) "__init__" q3) es [] q5) (ksEnv qn sc L f (.ref cda) cc) = (do
  let ov ← attributeBase (.Call (.Name "super" q1) [] [] q2) "__init__" (ksEnv qn sc L f (.ref cda) cc) (eval (.Call (.Name "super" q1) [] [] q2) (ksEnv qn sc L f (.ref cda) cc))
  standAt q3.atName
  let (fn, first) ← holding [ov] (getMethod ov "__init__" pl)
  callWith q5 fn first (backTo q5 (starEach es (ksEnv qn sc L f (.ref cda) cc))) [])
structure ErrT (P : Program) (K : Frag) (mg : Str -> Option Value) (x : Str) (ps : List Str) (C fI : Addr) : Prop where
  gC : mg x = some (.ref C)
  cls : ∃ B newId i bmB nm q N bs bm sn sub ab col dd k0 k1 k2 k3 k5, BaseF B newId i bmB ∧ K.lookup C = some (excClassObj nm q C N bs bm true sn sub ab col dd k0 k1 k2 k3 k5 newId) ∧ Z85 bmB bm = true ∧ subIn K (.ref C) (.type B) = some true ∧ ks_superIn K C C "__init__" = some (some (.builtin i))
  sa : findIn K (.ref C) "__setattr__" = some (some (.builtin "object.__setattr__"))
  no : ∀ p ∈ ps, findIn K (.ref C) p = some none
  iC : findIn K (.ref C) "__init__" = some (some (.ref fI))
  tC : typeIn K (.ref fI) = some (.type "function")
  kC : keepIn K (.ref C) = true
  sub : subIn K (.ref C) (.ref C) = some true
  exC : subIn K (.ref C) (.type "BaseException") = some true
  tyC : typeIn K (.ref C) = some (.type "type")
  top : nsIn K cStatics "thirdparty.any" = some none
  hs : mg "super" = none
  tp : (P.main.scope.names.lookup ("super" : Str)).isSome = false
  n1 : (scp ps).names.lookup ("super" : Str) = some .globalImplicit
  n2 : (scp ps).names.lookup ("__class__" : Str) = some .free
  n3 : (scp ps).names.lookup ("self" : Str) = some .local
  np : ∀ p ∈ ps, (scp ps).names.lookup p = some .local ∧ (p == ("__debug__" : Str)) = false ∧ p ≠ "self"
  fn : ∃ (oc : Value) (od : Option Addr) (doc pm : Value) (an : Option Addr) (cda cc : Addr) (ct : Value) (osl : Array (Option Value)) (qn : Str) (pp : List Pos) (body : List Stmt) (ocd oce : Obj) (vs : Array Value) (file : Str) (tf : Tok),
    K.lookup fI = some ⟨oc, od, .func (ksFn "__init__" qn (pars ((("self" : Str) :: ps).zip pp)) body (scp ps) .none .none doc pm an (.ref cda) ct cc), osl⟩ ∧ L2.Binds K (ksFn "__init__" qn (pars ((("self" : Str) :: ps).zip pp)) body (scp ps) .none .none doc pm an (.ref cda) ct cc) (("self" : Str) :: ps) [] ∧ codeIn K (.ref cda) qn = true ∧ pp.length = ps.length + 1 ∧
    K.lookup cc = some oce ∧ oce.data = .cell (some (.ref C)) ∧ K.lookup cda = some ocd ∧ ocd.data = .fields vs ∧ vs[2]? = some (.str file tf) ∧ ((P.main.file : Str) == file) = true ∧
    ((∃ p, ps = [p] ∧ ∃ q1 q2 q3 q4 q5 q6 q7 q8 q9 q10, body = bd1 p q1 q2 q3 q4 q5 q6 q7 q8 q9 q10 ∧ Hev qn (scp ps) fI cda cc q1 q2 q3 q5 [.Name p q4]) ∨ ∃ p r, ps = [p, r] ∧ p ≠ r ∧ ∃ q1 q2 q3 q4 q4' q5 q6 q7 q8 q9 q10 r7 r8 r9 r10, body = bd2 p r q1 q2 q3 q4 q4' q5 q6 q7 q8 q9 q10 r7 r8 r9 r10 ∧ Hev qn (scp ps) fI cda cc q1 q2 q3 q5 [.Name p q4, .Name r q4'])
def fdm : List Str -> List Value -> Str -> Option Value
  | p :: ps, v :: vs, y => if y = p then some v else fdm ps vs y
  | _, _, _ => none
structure ErrEnd (h h' : Heap) (x C dx : Addr) (ps : List Str) (us : List Value) : Prop where
  keep : ∀ b o, b ≠ x -> h.get? b = some o -> h'.get? b = some o
  obj : ∃ t1, h'.get? x = some { cls := .ref C, dict := some dx, data := .fields #[.ref t1, .none, .none, .none, .bool false, .none] }
  dbig : h.objs.size ≤ dx
  dne : dx ≠ x
  ns : ∃ m, h'.Ns1 dx m ∧ ∀ y, m y = fdm ps us y
section
variable {prog : Program} {w : World} {A : Around} {E : Value -> Shared -> Prop} {R : Result -> Shared -> Prop} {s : Shared} {K : Frag} {mg mb : Str -> Option Value} {C fI : Addr} {x0 : Str} {ps : List Str}
theorem Zdm {h h' : Heap} {x : Addr} (X : K.In h) (hx : K.lookup x = none) (k : ∀ b o, b ≠ x -> h.get? b = some o -> h'.get? b = some o) : K.In h' := fun a o e =>
  k a o (fun z => by rw [z, hx] at e; cases e) (X a o e)
theorem ldK {M : Model} {s : Shared} {name : Str} {scope : Scope} {L a cc : Addr} {cd : Value} {m : Str -> Option Value} {x : Str} {pos : Pos} {v : Value} {Q : Value -> Shared -> Prop} {A : Around} {E : Value -> Shared -> Prop} (hn : s.heap.Ns L m) (hv : m x = some v) (h : Q v s)
    (hk : scope.kind = .function) (hl : scope.names.lookup x = some .local) (hd : (x == ("__debug__" : Str)) = false) :
    wpAny M A (eval (.Name x pos) (ksEnv name scope L a cd cc)) Q E s := wpAny_Name (wpAny_loadName_local hk hl hn hv h) hd
theorem Zn9 (T : ErrT prog K mg x0 ps C fI) {x t0 : Addr} {us : List Value} (hul : us.length = ps.length) (X : K.In s.heap) (hlim : s.heap.NoLimit) (hG : s.heap.Ns mainGlobals mg) (hB : s.heap.Ns builtinsNs mb) (hbs : mb "super" = some (.type "super")) (hx : s.heap.get? x = some (excO C t0)) (hnx : K.lookup x = none) (hroom : A.depth < recursionLimit)
    (hq : ∀ h' tk dx, ErrEnd s.heap h' x C dx ps us -> R (.ok (.ret .none)) { s with heap := h', toks := tk }) :
    codeAny (model prog w) A (.call (.ref fI) ⟨.ref x :: us, []⟩) R s := by
  obtain ⟨oc, od, doc, pm, an, cda, cc, ct, osl, qn, pp, body, ocd, oce, vs, file, tf, ho, hbd, hcd, hpp, hcc, hce, hcda, hcdd, hvs, hfile, hshape⟩ := T.fn
  obtain ⟨B, newId, i, bmB, nm, q, N, bs, bm, sn, sub, ab, col, dd, k0, k1, k2, k3, k5, BF, hC, hrb, hsB, hsu⟩ := T.cls
  have hcl : clsIn K C = some { name := nm, bases := bs, mro := .ref C :: bm, ns := N, qualname := q, hasDict := true, slotNames := sn, subclasses := sub, abstract := ab, collection := col, hasDel := false } := by unfold clsIn; rw [hC] <;> rfl
  have hlen : ((Value.ref x :: us) ++ []).length = ((("self" : Str)) :: ps).length := by rw [List.append_nil, List.length_cons, List.length_cons, hul]
  have hbind := hbd s (.ref x :: us) X hlen
  rw [List.append_nil] at hbind
  refine ks_codeAny_call_defAt (fd := ksFn "__init__" qn (pars ((("self" : Str) :: ps).zip pp)) body (scp ps) .none .none doc pm an (.ref cda) ct cc) (body := body) (binds := ((("self" : Str)) :: ps).zip (.ref x :: us)) hroom (X _ _ ho) rfl hlim (codeRec_of X hcd) rfl hbind ?_ ?_ (fun h1 hns hk1 => ?_)
  · intro y hy
    simp only [scp, List.mem_append, List.mem_cons, List.mem_map, List.not_mem_nil, or_false] at hy
    rcases hy with (rfl | ⟨_, _, rfl⟩) | rfl | rfl <;> exact fun z => nomatch z
  · intro y hy
    have : y.1 ∈ (("self" : Str)) :: ps := (List.of_mem_zip hy).1
    rcases List.mem_cons.mp this with z | z
    · rw [z]; exact T.n3
    · exact (T.np _ z).1
  have hxL : s.heap.objs.size ≠ x := Nat.ne_of_gt (Heap.lt_size hx)
  have X1 : K.In h1 := X.keeps hk1
  have nsk : ∀ {h2 h3 : Heap} {m : Str -> Option Value}, h2.Ns s.heap.objs.size m -> (∀ b o, b ≠ x -> h2.get? b = some o -> h3.get? b = some o) -> h3.Ns s.heap.objs.size m := fun {h2 h3 m} hn k => by
    obtain ⟨o, es, ep, g1, g2, g3⟩ := hn
    exact ⟨o, es, ep, k _ _ hxL g1, g2, g3⟩
  have hk1' : ∀ {b : Addr} {m : Str -> Option Value}, s.heap.Ns b m -> h1.Ns b m := fun {b m} hn => by
    obtain ⟨o, es, ep, g1, g2, g3⟩ := hn
    exact ⟨o, es, ep, hk1 _ _ g1, g2, g3⟩
  have tb : bm.length = bm.length := rfl
  have big : s.heap.objs.size < h1.objs.size := hns.lt
  rcases hshape with ⟨p, rfl, q1, q2, q3, q4, q5, q6, q7, q8, q9, q10, rfl, hev⟩ | ⟨p, r, rfl, hpr, q1, q2, q3, q4, q4', q5, q6, q7, q8, q9, q10, r7, r8, r9, r10, rfl, hev⟩
  · obtain ⟨pl, hev⟩ := hev s.heap.objs.size
    obtain ⟨v, rfl⟩ : ∃ v, us = [v] := by
      match us, hul with
      | [v], _ => exact ⟨v, rfl⟩
    obtain ⟨np1, np2, np3⟩ := T.np p List.mem_cons_self
    have hm1 : (List.reverse ((("self" : Str) :: [p]).zip [Value.ref x, v])).lookup ("self" : Str) = some (.ref x) := by
      have : (("self" : Str) == p) = false := by simpa using Ne.symm np3
      simp [List.lookup, this]
    have hm2 : (List.reverse ((("self" : Str) :: [p]).zip [Value.ref x, v])).lookup p = some v := by simp [List.lookup]
    obtain ⟨pp0, pp1, rfl⟩ : ∃ a b, pp = [a, b] := by
      match pp, hpp with
      | [a, b], _ => exact ⟨a, b, rfl⟩
    refine ks_wpAt_execs_cons (ks_wpAt_Expr_any (Zbi (D := C) (fd := ksFn "__init__" qn (pars ((("self" : Str) :: [p]).zip [pp0, pp1])) _ (scp [p]) .none .none doc pm an (.ref cda) ct cc) (ar := { arg := "self", annotation := none, pos := pp0 }) (us := [v]) (cc := cc) (cda := cda) (f := fI) (L := s.heap.objs.size) (qn := qn) (sc := scp [p]) BF.eb BF.kx X1 hC (hk1 _ _ hx) hns hm1 (X1 _ _ ho) rfl rfl (X1 _ _ hcda) hcdd hvs hfile T.tp (hk1' hG) T.hs (hk1' hB) hbs ⟨_, X1 _ _ hcc, hce⟩ (X1 _ _ hC) rfl T.sub hsB T.top hcl hsu hev (fun h' t' Q' k hQ => ?_) rfl rfl rfl T.n1 T.n2 T.n3 (by simp [sizeLine_eq]) fun h2 t2 t1 k2 hx2 => ?_) rfl rfl)
    · refine spliced_cons (ldK (m := fun x_1 => (List.reverse ((("self" : Str) :: [p]).zip [Value.ref x, v])).lookup x_1) (by obtain ⟨o, es, ep, g1, g2, g3⟩ := hns; exact ⟨o, es, ep, k _ _ g1, g2, g3⟩) hm2 ?_ rfl np1 np2)
      exact spliced_nil hQ
    · have hn2 := nsk hns k2
      have X2 := Zdm X1 hnx k2
      refine ks_wpAt_execs_cons (ks_wpAt_Assign_Attr (wpAt_of_wpAny (ldK hn2 hm2 (ldK hn2 hm1 ?_ rfl T.n3 (by decide)) rfl np1 np2)) rfl)
      refine set_plain X2 (ox := excO C t1) (od := none) ⟨hx2, rfl, rfl, trivial⟩ T.sa ?_
      refine osa_new BF X2 hx2 hcl rfl hrb rfl (T.no p List.mem_cons_self) (fun h3 tk3 dx k3 dn dne hx3 hn3 => ?_)
      refine wpAt_of_wpAny (wpAny_execs_nil (hq h3 tk3 dx ⟨fun b o hb e => k3 b o hb (k2 b o hb (hk1 b o e)), ⟨t1, hx3⟩, ?_, dne, _, hn3, fun y => rfl⟩))
      exact Nat.le_of_lt (Nat.lt_of_lt_of_le (show s.heap.objs.size < h2.objs.size from hn2.lt) dn)
  · obtain ⟨pl, hev⟩ := hev s.heap.objs.size
    obtain ⟨v, u, rfl⟩ : ∃ v u, us = [v, u] := by
      match us, hul with
      | [v, u], _ => exact ⟨v, u, rfl⟩
    obtain ⟨np1, np2, np3⟩ := T.np p List.mem_cons_self
    obtain ⟨nr1, nr2, nr3⟩ := T.np r (List.mem_cons_of_mem _ List.mem_cons_self)
    have b1 : (("self" : Str) == p) = false := by simpa using Ne.symm np3
    have b2 : (("self" : Str) == r) = false := by simpa using Ne.symm nr3
    have b3 : (p == r) = false := by simpa using hpr
    have hm1 : (List.reverse ((("self" : Str) :: [p, r]).zip [Value.ref x, v, u])).lookup ("self" : Str) = some (.ref x) := by simp [List.lookup, b1, b2]
    have hm2 : (List.reverse ((("self" : Str) :: [p, r]).zip [Value.ref x, v, u])).lookup p = some v := by simp [List.lookup, b3]
    have hm3 : (List.reverse ((("self" : Str) :: [p, r]).zip [Value.ref x, v, u])).lookup r = some u := by simp [List.lookup]
    obtain ⟨pp0, pp1, pp2, rfl⟩ : ∃ a b c, pp = [a, b, c] := by
      match pp, hpp with
      | [a, b, c], _ => exact ⟨a, b, c, rfl⟩
    refine ks_wpAt_execs_cons (ks_wpAt_Expr_any (Zbi (D := C) (fd := ksFn "__init__" qn (pars ((("self" : Str) :: [p, r]).zip [pp0, pp1, pp2])) _ (scp [p, r]) .none .none doc pm an (.ref cda) ct cc) (ar := { arg := "self", annotation := none, pos := pp0 }) (us := [v, u]) (cc := cc) (cda := cda) (f := fI) (L := s.heap.objs.size) (qn := qn) (sc := scp [p, r]) BF.eb BF.kx X1 hC (hk1 _ _ hx) hns hm1 (X1 _ _ ho) rfl rfl (X1 _ _ hcda) hcdd hvs hfile T.tp (hk1' hG) T.hs (hk1' hB) hbs ⟨_, X1 _ _ hcc, hce⟩ (X1 _ _ hC) rfl T.sub hsB T.top hcl hsu hev (fun h' t' Q' k hQ => ?_) rfl rfl rfl T.n1 T.n2 T.n3 (by simp [sizeLine_eq]) fun h2 t2 t1 k2 hx2 => ?_) rfl rfl)
    · have hn' : h'.Ns s.heap.objs.size (fun x_1 => (List.reverse ((("self" : Str) :: [p, r]).zip [Value.ref x, v, u])).lookup x_1) := by obtain ⟨o, es, ep, g1, g2, g3⟩ := hns; exact ⟨o, es, ep, k _ _ g1, g2, g3⟩
      refine spliced_cons (ldK hn' hm2 ?_ rfl np1 np2)
      refine spliced_cons (ldK hn' hm3 ?_ rfl nr1 nr2)
      exact spliced_nil hQ
    · have hn2 := nsk hns k2
      have X2 := Zdm X1 hnx k2
      have sz2 : s.heap.objs.size < h2.objs.size := hn2.lt
      refine ks_wpAt_execs_cons (ks_wpAt_Assign_Attr (wpAt_of_wpAny (ldK hn2 hm2 (ldK hn2 hm1 ?_ rfl T.n3 (by decide)) rfl np1 np2)) rfl)
      refine set_plain X2 (ox := excO C t1) (od := none) ⟨hx2, rfl, rfl, trivial⟩ T.sa ?_
      refine osa_new BF X2 hx2 hcl rfl hrb rfl (T.no p List.mem_cons_self) (fun h3 tk3 dx k3 dn dne hx3 hn3 => ?_)
      have hn3' := nsk hn2 k3
      have X3 := Zdm X2 hnx k3
      have wi : Within (fun y => if y = p then some v else none) [p] := fun y hy => by
        by_cases q : y = p
        · rw [q]; exact List.mem_cons_self
        · exact absurd (if_neg q) hy
      obtain ⟨oD, hoD, _⟩ := hn3.count wi
      refine ks_wpAt_execs_cons (ks_wpAt_Assign_Attr (wpAt_of_wpAny (ldK hn3' hm3 (ldK hn3' hm1 ?_ rfl T.n3 (by decide)) rfl nr1 nr2)) rfl)
      obtain ⟨esD, hoD1, hoD2, _⟩ := ‹_›
      refine set_plain X3 (ox := { cls := .ref C, dict := some dx, data := .fields #[.ref t1, .none, .none, .none, .bool false, .none] }) (od := some oD) ⟨hx3, rfl, rfl, hoD1⟩ T.sa ?_
      refine osa_old BF X3 hx3 hn3 wi (by simp) hcl rfl hrb rfl (T.no r (List.mem_cons_of_mem _ List.mem_cons_self)) (fun h4 tk4 k4 hn4 => ?_)
      have dL : s.heap.objs.size < dx := Nat.lt_of_lt_of_le sz2 dn
      refine wpAt_of_wpAny (wpAny_execs_nil (hq h4 tk4 dx ⟨fun b o hb e => ?_, ⟨t1, k4 _ _ (Ne.symm dne) hx3⟩, Nat.le_of_lt dL, dne, _, hn4, fun y => ?_⟩))
      · have hbd : b ≠ dx := fun z => by rw [z] at e; exact absurd (Heap.lt_size e) (Nat.lt_asymm dL)
        exact k4 b o hbd (k3 b o hb (k2 b o hb (hk1 b o e)))
      · show (if y = r then some u else if y = p then some v else none) = fdm [p, r] [v, u] y
        show _ = if y = p then some v else if y = r then some u else none
        by_cases q : y = p
        · rw [if_neg (fun z => hpr (q.symm.trans z))]; rw [if_pos q, if_pos q]
        · rw [if_neg q, if_neg q]
end
structure ErrMade (h h' : Heap) (e C d : Addr) (ps : List Str) (us : List Value) : Prop where
  keep : ∀ b o, h.get? b = some o -> h'.get? b = some o
  new : h.objs.size ≤ e
  obj : ∃ oe vs, h'.get? e = some oe ∧ oe.cls = .ref C ∧ oe.dict = some d ∧ oe.data = .fields vs ∧ vs[1]? = some .none
  dbig : h.objs.size ≤ d
  dne : d ≠ e
  ns : ∃ m, h'.Ns1 d m ∧ ∀ y, m y = fdm ps us y
section
variable {prog : Program} {w : World} {A : Around} {R : Result -> Shared -> Prop} {s : Shared} {K : Frag} {mg mb : Str -> Option Value} {C fI : Addr} {x0 : Str} {ps : List Str}
theorem errMade (T : ErrT prog K mg x0 ps C fI) {us : List Value} (hul : us.length = ps.length) (X : K.In s.heap) (hlim : s.heap.NoLimit) (hG : s.heap.Ns mainGlobals mg) (hB : s.heap.Ns builtinsNs mb) (hbs : mb "super" = some (.type "super")) (hroom : A.depth + 1 < recursionLimit) (hz : us.length ≤ sizeLine)
    (hq : ∀ h' tk e d, ErrMade s.heap h' e C d ps us -> R (.ok (.ret (.ref e))) { s with heap := h', toks := tk }) : codeAny (model prog w) A (.call (.ref C) ⟨us, []⟩) R s := by
  obtain ⟨B, newId, i, bmB, nm, q, N, bs, bm, sn, sub, ab, col, dd, k0, k1, k2, k3, k5, BF, hC, hrb, hsB, hsu⟩ := T.cls
  obtain ⟨hp, g, dr, tk, os⟩ := s
  have k : ∀ b o, hp.get? b = some o -> ((hp.push (kdv_tup us)).push (excO C hp.objs.size)).get? b = some o := fun b o e => Heap.get?_push_of_some _ (Heap.get?_push_of_some _ e)
  have nsk : ∀ {b : Addr} {m : Str -> Option Value}, hp.Ns b m -> ((hp.push (kdv_tup us)).push (excO C hp.objs.size)).Ns b m := fun {b m} hn => by
    obtain ⟨o, es, ep, g1, g2, g3⟩ := hn
    exact ⟨o, es, ep, k _ _ g1, g2, g3⟩
  have hget : ((hp.push (kdv_tup us)).push (excO C hp.objs.size)).get? (hp.objs.size + 1) = some (excO C hp.objs.size) := by
    have := Heap.get?_push_size (hp.push (kdv_tup us)) (o := excO C hp.objs.size) rfl
    rwa [Heap.size_push] at this
  have hnx : K.lookup (hp.objs.size + 1) = none := by
    cases e : K.lookup (hp.objs.size + 1) with
    | none => rfl
    | some o => exact absurd (Nat.lt_of_succ_lt (Heap.lt_size (X _ _ e : hp.get? (hp.objs.size + 1) = some o))) (Nat.lt_irrefl _)
  refine call_own BF.eb (fun Z => Z7d Z hrb) (X _ _ hC) (looks_findIn X T.iC) (fun self => bind_fn X self T.tC) hz ?_
  refine Zn9 (s := ⟨(hp.push (kdv_tup us)).push (excO C hp.objs.size), g, dr, tk, os⟩) T hul (X.keeps k) (hlim.keeps k) (nsk hG) (nsk hB) hbs hget hnx hroom fun h' tk' dx ⟨k', ⟨t1, hx⟩, dn, dne, hns⟩ => ?_
  have old : ∀ b o, hp.get? b = some o -> h'.get? b = some o := fun b o e => k' b o (Nat.ne_of_lt (Nat.lt_succ_of_lt (Heap.lt_size e))) (k b o e)
  have dn : ((hp.push (kdv_tup us)).push (excO C hp.objs.size)).objs.size ≤ dx := dn
  rw [Heap.size_push, Heap.size_push] at dn
  exact ⟨rfl, hq h' tk' (hp.objs.size + 1) dx ⟨old, Nat.le_succ _, ⟨_, _, hx, rfl, rfl, rfl, rfl⟩, show hp.objs.size ≤ dx by omega, dne, hns⟩⟩
end
end DX
namespace DM
open PySem PySem.Spec PyProof.Rows L2 DL
theorem Zgz : ∀ {ps : List Str} {vs : List V} {us : List Value}, Vals vs us -> vs.length = ps.length -> ∀ f, RelO (List.lookup f (ps.zip vs)) (DX.fdm ps us f)
  | [], [], [], _, _, f => trivial
  | p :: ps, v :: vs, u :: us, .cons h r, hl, f => by
    show RelO (List.lookup f ((p, v) :: ps.zip vs)) (if f = p then some u else DX.fdm ps us f)
    by_cases q : f = p
    · rw [if_pos q, q, List.lookup_cons_self]
      exact h
    · rw [if_neg q]
      have : (f == p) = false := by simpa using q
      simp only [List.lookup, this]
      exact Zgz r (by simpa using hl) f
  | [], _ :: _, _, _, hl, _ => by cases hl
  | _ :: _, [], _, _, hl, _ => by cases hl
theorem Zmb {X : Cx} {C fI : Addr} {x : Str} {ps : List Str} {es : List Expr} {t : TA} {p pos : Pos} {k : Nat} (T : DX.ErrT X.prog X.K X.mg x ps C fI) (hr : Room (k + 1) X.A) (ha : Znw X es t) (hg : Gl X x) (hdb : (x == ("__debug__" : Str)) = false) :
    PMk X (.Call (.Name x p) es [] pos) (fun σ H Q => t σ H fun vs H1 => vs.length = ps.length ∧ vs.length ≤ sizeLine ∧ ∀ d, H1 d = none -> Q (.ref C) (some d) (upd H1 d (.xd (ps.zip vs)))) := by
  intro pins s σ H Q I h
  refine wpAny_Call_Name_kw (ld_glob I hg T.gC ?_ hdb)
  refine ha pos (.ref C) [] pins s σ H _ _ T.kC I h fun us vs H1 s1 I1 r ⟨hl, hz, q1⟩ => ?_
  show wpAny _ _ (call (.ref C) us) _ _ _
  obtain ⟨mb, hB, hmb⟩ := I1.mod.blt
  have hlim := I1.nolimit
  have nsb : ∀ {b : Addr} {m : Str -> Option Value}, X.base.Ns b m -> s1.heap.Ns b m := fun {b m} hn => by
    obtain ⟨o, es, ep, g1, g2, g3⟩ := hn
    exact ⟨o, es, ep, I1.bk _ _ g1, g2, g3⟩
  have hG := nsb I1.mod.glob
  have hBs := nsb hB
  have hbs : mb "super" = some (.type "super") := (hmb "super" (by decide)).trans (by rfl)
  obtain ⟨hp, g, dr, tk, os⟩ := s1
  refine wpAny_call (DX.errMade T (by rw [← r.length]; exact hl) I1.kIn hlim hG hBs hbs (by have := hr.dp; omega) (by rw [← r.length]; exact hz) fun h' tk' e d M => ?_)
  show MkP X pins σ Q (.ref e) ⟨h', g, dr, tk', os⟩
  obtain ⟨oe, fv, hoe, hc, hd, hdat, h1⟩ := M.obj
  obtain ⟨m, hns, hm⟩ := M.ns
  obtain ⟨G', g1, g2⟩ := restrict h' fun b => decide (b ≠ e)
  have gk : ∀ b, b ≠ e -> G'.get? b = h'.get? b := fun b hb => g1 b (decide_eq_true hb)
  have ge : G'.get? e = none := g2 e (by simp)
  have old : ∀ b o, hp.get? b = some o -> G'.get? b = some o := fun b o q => (gk b (Nat.ne_of_lt (Nat.lt_of_lt_of_le (Heap.lt_size q) M.new))).trans (M.keep b o q)
  have ob : ObjOk X.prog X.w (upd H1 d (.xd (ps.zip vs))) G' d (.xd (ps.zip vs)) := by
    refine ⟨m, hns.at (fun o q => (gk d M.dne).trans q), fun f => ?_⟩
    rw [hm f]
    exact Zgz r hl f
  have J : Inv X pins σ (upd H1 d (.xd (ps.zip vs))) ⟨G', g, dr, tk', os⟩ := I1.laid (t' := tk') old M.dbig ob
  refine ⟨e, oe, fv, ⟨G', g, dr, tk', os⟩, _, .ref C, some d, rfl, J, fun b o q => ?_, ge, hoe, ⟨hc, hd⟩, hdat, h1, ?_, rfl, I1.bare, raises_own T.exC T.tyC, q1 d (I1.hok.fresh M.dbig)⟩
  · by_cases hb : b = e
    · have q' : G'.get? b = some o := q
      rw [hb, ge] at q'; cases q'
    · exact (gk b hb).symm.trans q
  · rw [upd_ne (Ne.symm M.dne)]
    exact I1.hok.fresh M.new
end DM
namespace DM
open PySem PySem.Spec PyProof.Rows L2 DL
structure ErrC (P : Program) (K : PySem.W.Frag) (mg : Str -> Option Value) (x : Str) (ps : List Str) : Prop where
  ex : ∃ C fI, DX.ErrT P K mg x ps C fI ∧ Cl K x C
def R.raise {β α : Type} (x : Str) (ps : List Str) (ds : List D) (xb : β) : R β α := if ds.length = ps.length ∧ DM.few ds.length = true then .ex ⟨x, ps.zip ds⟩ xb else .no
theorem Zd0 : ∀ {ps : List Str} {α : Type} {vs : List α}, vs.length = ps.length -> (ps.zip vs).map (·.1) = ps
  | [], _, [], _ => rfl
  | p :: ps, _, v :: vs, h => by rw [List.zip_cons_cons, List.map_cons, Zd0 (by simpa using h)]
  | [], _, _ :: _, h => by cases h
  | _ :: _, _, [], h => by cases h
theorem Zcz : ∀ {ps : List Str} {α : Type} {vs : List α}, vs.length = ps.length -> (ps.zip vs).map (·.2) = vs
  | [], _, [], _ => rfl
  | p :: ps, _, v :: vs, h => by rw [List.zip_cons_cons, List.map_cons, Zcz (by simpa using h)]
  | [], _, _ :: _, h => by cases h
  | _ :: _, _, [], h => by cases h
inductive TOut (S Sb Sc Sr : Type) where
  | nx (s : S) | bk (s : Sb) | ct (s : Sc) | rt (d : D) (s : Sr)
section
variable {X : Cx} {K : PySem.W.Frag} {E : XE} {β ω : Type} {κ : Kt β ω} {env : Fm} {pos : Pos} {rest : List Stmt}
theorem Z8j {x : Str} {ps : List Str} {es : List Expr} {p p2 : Pos} {k : Nat} {cs : (List D -> R β ω) -> R β ω} (xb : β) (T : ErrC X.prog K X.mg x ps) (ha : AC X K E (κ.fx xb) xb env es cs) (hx : Wk env (κ.fx xb)) (hc : X.calm = true) (tk : Z9g X E) (hr : Room (k + 1) X.A) (hg : Gl X x) (hdb : (x == ("__debug__" : Str)) = false := by decide) :
    AB X K E κ env (.Raise (some (.Call (.Name x p) es [] p2)) none pos :: rest) (cs fun ds => R.raise x ps ds xb) := by
  have hK := ha.1
  subst hK
  obtain ⟨C, fI, T1, T2⟩ := T.ex
  refine ⟨rfl, fun B F H σ Dn G sr gs hG => ⟨_, pss_cons (ps_raise hc tk (Zmb T1 hr cw_C hg hdb)) ps_C, ?_⟩⟩
  refine ha.2 B F H σ _ _ G sr hx (gs.gx xb) (fun ds vs F1 H1 h1 e1 eh1 s1 d1 => ?_) hG
  have h1 : G (if ds.length = ps.length ∧ DM.few ds.length = true then .ex ⟨x, ps.zip ds⟩ xb else .no) := h1
  split at h1
  case isFalse => exact (gs.no h1).elim
  rename_i hl
  have hvl : vs.length = ps.length := by rw [d1.length]; exact hl.1
  refine ⟨hvl, by rw [d1.length]; exact of_decide_eq_true hl.2, fun d hd => ?_⟩
  have hFd : F1 d = none := s1.ex.none hd
  refine gs.ex _ xb h1 _ _ (upd F1 d (.xd (ps.zip vs))) _ σ (e1.trans (Ex.new hFd)) ((s1.grow hd).wk hx) ⟨C, d, ps.zip vs, rfl, T2, rfl, upd_same, ?_, ?_⟩
  · show _ = (ps.zip ds).map (·.1)
    rw [Zd0 hvl, Zd0 hl.1]
  · show DrA X.K _ ((ps.zip vs).map (·.2)) ((ps.zip ds).map (·.2))
    rw [Zcz hvl, Zcz hl.1]
    exact d1.mono (Ex.new hFd)
def R.out {S Sb Sc Sr : Type} (k : S -> R β ω) (kb : Sb -> R β ω) (kc : Sc -> R β ω) (kr : D -> Sr -> R β ω) : TOut S Sb Sc Sr -> R β ω
  | .nx s => k s
  | .bk s => kb s
  | .ct s => kc s
  | .rt d s => kr d s
def R.fin {α : Type} (m : R Unit α) (o : α -> R β ω) : R β ω := match m with
  | .ok a => o a
  | _ => .no
def R.clause {α : Type} (mt : Str -> Option Bool) (x : Exn) (yes : R Unit α) (o : α -> R β ω) (no : R β ω) : R β ω := match mt x.C with
  | some true => R.fin yes o
  | some false => no
  | none => .no
def R.try' {α βB : Type} (o : α -> R β ω) (m : R βB α) (h : Exn -> βB -> R β ω) : R β ω := match m with
  | .ok a => o a
  | .ex x b => h x b
  | .no => .no
def R.tryc {α : Type} (o : α -> R β ω) (m : R Unit α) (mt : Str -> Option Bool) (mS : Exn -> R Unit α) (xb : β) : R β ω := R.try' o m fun y _ => R.clause mt y (mS y) o (.ex y xb)
structure MtC (X : Cx) (K : PySem.W.Frag) (x : Str) (mt : Str -> Option Bool) : Prop where
  ex : ∃ c, Names X x c ∧ ∀ C b, mt C = some b -> ∀ c', Cl K C c' -> PySem.W.exmOne K (.ref c') c = some b
structure MtK (K : PySem.W.Frag) (mg : Str -> Option Value) (x : Str) (mt : Str -> Option Bool) : Prop where
  ex : ∃ c, (mg x = some c ∨ (mg x = none ∧ bootBuiltins x = some c ∧ x ≠ "__name__")) ∧ ∀ C b, mt C = some b -> ∀ c', Cl K C c' -> PySem.W.exmOne K (.ref c') c = some b
theorem MtK.at {X : Cx} {K : PySem.W.Frag} {x : Str} {mt : Str -> Option Bool} (h : MtK K X.mg x mt) (hg : Gl X x) (hd : (x == ("__debug__" : Str)) = false := by decide) : MtC X K x mt := by
  obtain ⟨c, h1, h2⟩ := h.ex
  exact ⟨c, ⟨hg, hd, h1⟩, h2⟩
end
end DM
namespace DM
open PySem PySem.Spec PyProof.Rows L2 DL
theorem slot_tuple_index : Slot "tuple" "index" "tuple.index" :=
  .of (owner := "tuple") (n := "index") (by rw [typeLookup_type, builtinLookup_eq_fast]; kernel_rfl) (by decide +kernel) (by decide +kernel) (by decide +kernel) (by first | exact .inl (by decide +kernel) | exact .inr (by decide +kernel)) (by rw [isSubtype_type]; kernel_rfl)
theorem entry_tuple_index : entryFor table "tuple.index" = some Builtin.«tuple.index» := entryFor_of_tree (by kernel_rfl)
theorem Z8a (a b : Value) : argsOk "tuple.index" ⟨[a, b], []⟩ := by unfold argsOk; kernel_rfl
theorem type_tuple_index : typeOf (.builtin "tuple.index") = pure (.type "method_descriptor") := by show builtinType _ = _; rw [builtinType_eq_fast]; kernel_rfl
theorem type_list_index : typeOf (.builtin "list.index") = pure (.type "method_descriptor") := by show builtinType _ = _; rw [builtinType_eq_fast]; kernel_rfl
section
variable {X : Cx}
def Zm6 (K : PySem.W.Frag) : V -> List V -> Hp -> VK -> Prop := fun x xs H Q => ∃ (a : Addr) (y : V) (d : PyData) (ds : List PyData) (j : Nat) (z : PyData), x = V.ref a ∧ xs = [y] ∧ Dp K H (V.ref a) (.tuple ds) ∧ Dp K H y d ∧
  SeqAt.shaped (.tuple ds) = true ∧ SeqAt.shaped d = true ∧ ds[j]? = some z ∧ PyData.eqv z d = true ∧ (∀ (m : Nat) (z' : PyData), m < j -> ds[m]? = some z' -> PyData.eqv z' d = false) ∧ Q (.int (j : Nat)) H
theorem Zhg (hu : X.A.units + 65 < cLine) : MtR X "tuple.index" (Zm6 X.K) := by
  intro pins s σ H x xs v us Q I rx rxs h
  obtain ⟨a, y, d, ds, j, z, rfl, rfl, hl, hy, sl, sd, hz, hzj, hno, q⟩ := h
  cases rx
  cases rxs with
  | cons ry rt =>
    rename_i uy ut
    cases rt
    obtain ⟨bs, r1⟩ := Dp.reads I d y uy hy ry
    have hxs : PyData.canLayAll0 ds = true := SeqAt.canLay_of_shaped sl
    have hroom : X.A.units + 1 + min (PyData.depthAll ds) d.depth < cLine := room_in_shaped sd hu
    cases hl with
    | tup hs ha =>
      obtain ⟨its, rv, ⟨⟨cls, dd, data, sls⟩, ho, hc, n, hdt⟩, hlen⟩ := I.tuple hs
      simp only at hc hdt
      subst hc hdt
      obtain ⟨as, h4⟩ := Dp.readsAll I ds _ its ha rv
      have hn : its.length = ds.length := SeqAt.ReadsAll.length ds its as h4
      have hmap : its.map (SeqAt.readOf s.heap) = ds := SeqAt.readsAll_map ds its as hxs h4
      obtain ⟨hjd, _⟩ := List.getElem?_eq_some_iff.mp hz
      have hj : j < its.toArray.size := by rw [List.size_toArray]; omega
      have eqj : ∀ (m : Nat) (hm : m < its.toArray.size) (z' : PyData), ds[m]? = some z' -> SeqAt.readOf s.heap its.toArray[m] = z' := fun m hm z' hz' => by
        have hml : m < its.length := by rwa [List.size_toArray] at hm
        rw [← hmap, List.getElem?_map, List.getElem?_eq_getElem hml] at hz'
        exact Option.some.inj hz'
      have eqs := SeqAt.items_eqAt (vs := its.toArray) (show ReadsAll s.heap its.toArray.toList ds as from h4) r1 hxs (SeqAt.canLay_of_shaped sd) hroom
      refine call_meets slot_tuple_index ⟨_, ho, rfl⟩ entry_tuple_index (Z8a _ _)
        (SeqAt.tuple_index2_found a its.toArray n dd sls uy (fun m => PyData.eqv (SeqAt.readOf s.heap (its.toArray.getD m .none)) d) j hj (Nat.zero_le _) hj ?_ ?_) ⟨ho, fun m hm => ?_, ?_⟩
      · show PyData.eqv (SeqAt.readOf s.heap (its.toArray.getD j .none)) d = true
        rw [Array.getD_eq_getD_getElem?, Array.getElem?_eq_getElem hj, Option.getD_some, eqj j hj z hz]
        exact hzj
      · intro m hm _ hmj
        have hmd : m < ds.length := by rw [List.size_toArray] at hm; omega
        show PyData.eqv (SeqAt.readOf s.heap (its.toArray.getD m .none)) d = false
        rw [Array.getD_eq_getD_getElem?, Array.getElem?_eq_getElem hm, Option.getD_some, eqj m hm _ (List.getElem?_eq_getElem hmd)]
        exact hno m _ hmj (List.getElem?_eq_getElem hmd)
      · have := eqs its.toArray[m] (Array.getElem_mem hm)
        simp only [Array.getD_eq_getD_getElem?, Array.getElem?_eq_getElem hm, Option.getD_some]
        exact this
      · exact ⟨.int (j : Nat), H, I.tok _, ⟨_, rfl⟩, q⟩
end
theorem Zr4 {X : Cx} {pins : List (Addr × Obj)} {σ : L2.St} {H : Hp} {s : Shared} {a : Addr} {xs : List V} (I : Inv X pins σ H s) (h : TqT X.K H a xs) : s.TypeIs (.ref a) "tuple" ∧ ∀ b, Value.ref a = .ref b -> ∃ ob, s.heap.get? b = some ob ∧ ob.dict = none := by
  rcases h with ⟨o, h, hd⟩ | ⟨o, its, n, h1, h2, h3, _⟩
  · obtain ⟨g, _, us, _, o', g', hc, _⟩ := (show ObjOk X.prog X.w H s.heap a (.frz o (.tup xs)) from I.hok a _ h)
    rw [g] at g'
    cases g'
    exact ⟨⟨o, g, hc⟩, fun b e => by cases e; exact ⟨o, g, hd⟩⟩
  · exact ⟨⟨o, I.kIn _ _ h1, h2⟩, fun b e => by cases e; exact ⟨o, I.kIn _ _ h1, h3⟩⟩
theorem Zky {X : Cx} {o e : Expr} {es : List Expr} {to : TE} {t : TA} {name : Str} {apos cpos : Pos} {T id id' : String} {r r' : V -> List V -> Hp -> VK -> Prop}
    (p1 : PlainAttrs T) (s1 : Slot T name id) (t1 : typeOf (.builtin id) = pure (.type "method_descriptor")) (m1 : MtR X id r) (p2 : PlainAttrs "tuple") (s2 : Slot "tuple" name id') (t2 : typeOf (.builtin id') = pure (.type "method_descriptor")) (m2 : MtR X id' r') (ho : PE X o to) (ha : PA X (e :: es) t)
    (hbase : attributeBase o name X.env (eval o X.env) = eval o X.env) (hfew : ((backTo cpos (starEach (e :: es) X.env)).all (fun x => !x.1) && (backToKw cpos (keywordEach [] X.env)).all (fun x => x.1.isSome)
      && decide ((e :: es).length + ([] : List Keyword).length + (if ([] : List Keyword).isEmpty then 0 else 1) < 30)) = true) (hline : (apos.endLine == cpos.line) = true) (hs : starEach (e :: es) X.env = (false, eval e X.env) :: starEach es X.env) (hplain : (backTo cpos (starEach es X.env)).any (·.1) = false) :
    PE X (.Call (.Attribute o name apos) (e :: es) [] cpos) (fun σ H Q => to σ H fun x H1 => (tyV X.K T x H1 ∧ t σ H1 fun xs H2 => r x xs H2 Q) ∨ ((∃ a xs, x = .ref a ∧ TqT X.K H1 a xs) ∧ t σ H1 fun xs H2 => r' x xs H2 Q)) := by
  refine ⟨fun pins s σ H Q I h => wpAny_Call_method_late hbase hfew hline rfl (thn (ho.run pins s σ H _ I h) fun v q ⟨x, H1, I1, r1, hor⟩ => ?_)⟩
  have go : ∀ {T0 id0 : String} {r0 : V -> List V -> Hp -> VK -> Prop}, MtR X id0 r0 -> (t σ H1 fun xs H2 => r0 x xs H2 Q) -> wpAny (model X.prog X.w) X.A (callWith cpos (.builtin id0) [v] (backTo cpos (starEach (e :: es) X.env)) []) (EP X pins σ Q) X.xe q := fun {T0 id0 r0} hm q1 => by
    have hA := ha.run cpos pins q σ H1 _ I1 q1
    rw [hs] at hA ⊢
    exact Calls.callWith_builtin (by show (false || (backTo cpos (starEach es X.env)).any (·.1)) = false; rw [hplain] <;> rfl) (Calls.evalArgs_plain (thn hA fun us s2 ⟨vs, H2, I2, r2, q2⟩ => hm pins s2 σ H2 x vs v us Q I2 r1 r2 q2))
  rcases hor with ⟨ty, q1⟩ | ⟨ty, q1⟩
  · obtain ⟨h1, h2⟩ := tyV_is I1 r1 ty
    exact ⟨T, id, p1, s1, t1, h1, h2, go (T0 := T) m1 q1⟩
  · obtain ⟨a, xs, rfl, ty⟩ := ty
    cases r1
    obtain ⟨h1, h2⟩ := Zr4 I1 ty
    exact ⟨"tuple", id', p2, s2, t2, h1, h2, go (T0 := "tuple") m2 q1⟩
def idxD (y : D) (ds : List D) : Option Nat := (pds ds).findIdx? fun z => PyData.eqv z (pd y)
def idxG : D -> List D -> Option D := fun x as => match x, as with
  | .lst ds, [y] => if shp y && shp (.lst ds) then (idxD y ds).map fun j => .int (j : Nat) else none
  | .tup ds, [y] => if shp y && shp (.tup ds) then (idxD y ds).map fun j => .int (j : Nat) else none
  | _, _ => none
theorem Zf3 {y : D} {ds : List D} {j : Nat} (h : idxD y ds = some j) : ∃ z, (pds ds)[j]? = some z ∧ PyData.eqv z (pd y) = true ∧ ∀ (m : Nat) (z' : PyData), m < j -> (pds ds)[m]? = some z' -> PyData.eqv z' (pd y) = false := by
  unfold idxD at h
  obtain ⟨hj, h1, h2⟩ := List.findIdx?_eq_some_iff_getElem.mp h
  refine ⟨_, List.getElem?_eq_getElem hj, h1, fun m z' hm hz => ?_⟩
  obtain ⟨hl, rfl⟩ := List.getElem?_eq_some_iff.mp hz
  simpa using h2 m hm
theorem Z8g {K : PySem.W.Frag} {F H : Hp} (e : Ex F H) {ys : List V} {ds : List D} (h : DrA K F ys ds) : PyData.canLayAll0 (pds ds) = true -> DpAll K H ys (pds ds) := by
  induction h using DrA.rec (motive_1 := fun _ _ _ => True) with
  | nil => intro _; rw [pds]; exact .nil
  | cons h1 h2 _ ih =>
    intro hc
    rw [pds] at hc ⊢
    rw [PyData.canLayAll0, Bool.and_eq_true] at hc
    exact .cons ((h1.mono e).pd hc.1) (ih hc.2)
  | _ => trivial
section
variable {X : Cx} {K : PySem.W.Frag} {E : XE} {β γ : Type} {xF : Fm} {xb : β} {env : Fm} {e o : Expr} {p pos apos : Pos} {c1 : (D -> R β γ) -> R β γ} {cs : (List D -> R β γ) -> R β γ}
theorem Ze7 (hu : X.A.units + 65 < cLine) (h : AL X K E xF xb env o c1) (ha : AAL X K E xF xb env [e] cs) (hbase : attributeBase o "index" X.env (eval o X.env) = eval o X.env := by rfl)
    (hfew : ((backTo pos (starEach [e] X.env)).all (fun x => !x.1) && (backToKw pos (keywordEach [] X.env)).all (fun x => x.1.isSome)
      && decide (([e] : List Expr).length + ([] : List Keyword).length + (if ([] : List Keyword).isEmpty then 0 else 1) < 30)) = true := by rfl) (hline : (apos.endLine == pos.line) = true := by rfl) (hs : starEach [e] X.env = (false, eval e X.env) :: starEach [] X.env := by rfl) :
    AE X K E xF xb env (.Call (.Attribute o "index" apos) [e] [] pos) (fun (k : D -> R β γ) => c1 fun x => R.asQ x fun _ => cs fun as => R.lft (idxG x as) k) := by
  have hK := h.1
  subst hK
  refine ⟨rfl, fun B F H σ Q k G s w gx hk hG => ⟨_, Zky PySem.F.plainAttrs_list PySem.F.slot_list_index type_list_index (mt_indexD hu) PySem.F.plainAttrs_tuple slot_tuple_index type_tuple_index (Zhg hu) pe_C pa_C hbase hfew hline hs rfl, ?_⟩⟩
  refine h.2 B F H σ _ _ G s w gx (fun x v F1 H1 h1 e1 eh1 s1 d1 => ?_) hG
  cases x <;> first | exact (gx.no h1).elim | skip
  · rename_i ds
    obtain ⟨a, xs, rfl, g1, g2⟩ := d1.lst s1.ex
    refine Or.inl ⟨Or.inl ⟨rfl, xs, g1⟩, ha.2 B F1 H1 σ _ _ G s1 w (gx.mono e1) (fun as vs F2 H2 h2 e2 eh2 s2 d2 => ?_) h1⟩
    match as, vs, d2, h2 with
    | [y], [u], d2, h2 =>
      have h2 : G (R.lft (if shp y && shp (.lst ds) then (idxD y ds).map fun j => D.int (j : Nat) else none) k) := h2
      split at h2
      · rename_i hc
        rw [Bool.and_eq_true] at hc
        cases hi : idxD y ds with
        | none => rw [hi] at h2; exact (gx.no h2).elim
        | some j =>
          rw [hi] at h2
          obtain ⟨z, z1, z2, z3⟩ := Zf3 hi
          have hsl : SeqAt.shaped (.list (pds ds)) = true := by have := hc.2; unfold shp at this; rwa [pd] at this
          exact ⟨a, u, pd y, pds ds, j, z, rfl, rfl, .lst (eh2.sl g1) (Z8g s2.ex (g2.mono e2) (SeqAt.canLay_of_shaped hsl)), (d2.1.all s2.ex).pd (SeqAt.canLay_of_shaped hc.1), hsl, hc.1, z1, z2, z3, hk _ _ F2 H2 h2 (e1.trans e2) (eh1.trans eh2) s2 (.int _)⟩
      · exact (gx.no h2).elim
    | [], _, _, h2 => exact (gx.no h2).elim
    | _ :: _ :: _, _, _, h2 => exact (gx.no h2).elim
    | [_], [], d2, _ => exact d2.elim
    | [_], _ :: _ :: _, d2, _ => exact d2.2.elim
  · rename_i ds
    obtain ⟨a, xs, rfl, g0, g2⟩ := d1.tupZ s1.ex
    have g1 := g0.sq
    refine Or.inr ⟨⟨a, xs, rfl, g0⟩, ha.2 B F1 H1 σ _ _ G s1 w (gx.mono e1) (fun as vs F2 H2 h2 e2 eh2 s2 d2 => ?_) h1⟩
    match as, vs, d2, h2 with
    | [y], [u], d2, h2 =>
      have h2 : G (R.lft (if shp y && shp (.tup ds) then (idxD y ds).map fun j => D.int (j : Nat) else none) k) := h2
      split at h2
      · rename_i hc
        rw [Bool.and_eq_true] at hc
        cases hi : idxD y ds with
        | none => rw [hi] at h2; exact (gx.no h2).elim
        | some j =>
          rw [hi] at h2
          obtain ⟨z, z1, z2, z3⟩ := Zf3 hi
          have hsl : SeqAt.shaped (.tuple (pds ds)) = true := by have := hc.2; unfold shp at this; rwa [pd] at this
          exact ⟨a, u, pd y, pds ds, j, z, rfl, rfl, .tup (eh2.st g1) (Z8g s2.ex (g2.mono e2) (SeqAt.canLay_of_shaped hsl)), (d2.1.all s2.ex).pd (SeqAt.canLay_of_shaped hc.1), hsl, hc.1, z1, z2, z3, hk _ _ F2 H2 h2 (e1.trans e2) (eh1.trans eh2) s2 (.int _)⟩
      · exact (gx.no h2).elim
    | [], _, _, h2 => exact (gx.no h2).elim
    | _ :: _ :: _, _, _, h2 => exact (gx.no h2).elim
    | [_], [], d2, _ => exact d2.elim
    | [_], _ :: _ :: _, d2, _ => exact d2.2.elim
end
def intsOf : List D -> Option (List Int)
  | [] => some []
  | .int i :: ds => (intsOf ds).map fun ns => i :: ns
  | _ :: _ => none
theorem Z5w : ∀ {ds : List D} {ns : List Int}, intsOf ds = some ns -> ds = ns.map .int
  | [], ns, h => by cases h; rfl
  | d :: ds, ns, h => by
    cases d <;> try cases h
    rename_i i
    unfold intsOf at h
    cases q : intsOf ds with
    | none => rw [q] at h; cases h
    | some ms => rw [q] at h; cases h; rw [Z5w q]; rfl
theorem Z78 {K : PySem.W.Frag} {F : Hp} : ∀ {xs : List V} {ns : List Int}, DrA K F xs (ns.map .int) -> xs = ns.map V.int
  | _, [], h => by cases h; rfl
  | _, n :: ns, h => by
    cases h with
    | cons h1 h2 =>
      cases h1
      rw [Z78 h2]; rfl
theorem Z4q {K : PySem.W.Frag} {F : Hp} : ∀ (ns : List Int), DrA K F (ns.map V.int) (ns.map .int)
  | [] => .nil
  | n :: ns => .cons (.int n) (Z4q ns)
abbrev Zfm (ns : List Int) : List Int := PySem.W.sortI ns
theorem Za7 {ns ms : List Int} (hp : ms.Perm ns) (hs : ms.Pairwise (· ≤ ·)) : ms = Zfm ns := PySem.W.eq_sortI hp hs
def Zfn : List D -> Option D
  | [.lst ds] => (intsOf ds).map fun ns => .lst ((Zfm ns).map .int)
  | _ => none
theorem Zii {K : PySem.W.Frag} : Z9h K (rSortedI K) Zfn := by
  intro B F H σ env xs as c Q s hx hg q
  unfold Zfn at hg
  split at hg
  · rename_i ds
    cases hn : intsOf ds with
    | none => rw [hn] at hg; cases hg
    | some ns =>
      rw [hn] at hg
      cases hg
      obtain ⟨v, rfl, hv⟩ := hx.one
      obtain ⟨a, ys, rfl, h1, h2⟩ := hv.lst s.ex
      rw [Z5w hn] at h2
      rw [Z78 h2] at h1
      refine ⟨a, ns, rfl, h1, fun ms p hp hs hl => ?_⟩
      rw [Za7 hp hs]
      exact q _ F _ (Ex.refl F) (Ex.new hl) (s.newN hl (Do.lst (Z4q _))).1 (s.newN hl (Do.lst (Z4q _))).2
  · cases hg
section
variable {X : Cx} {K : PySem.W.Frag} {E : XE} {β γ : Type} {xF : Fm} {xb : β} {env : Fm} {e : Expr} {es : List Expr} {p pos : Pos} {cs : (List D -> R β γ) -> R β γ} {id : String} {x : Str} {r : List V -> Hp -> VK -> Prop} {g : List D -> Option D}
theorem Zff (hc : CallR X (.builtin id) r) (hd : Z9h K r g) (hv : bootBuiltins x = some (.builtin id)) (hm : X.mg x = none) (hg : Gl X x) (ha : AAL X K E xF xb env (e :: es) cs) (hn : x ≠ "__name__" := by decide) (hdb : (x == ("__debug__" : Str)) = false := by decide)
    (he : starEach (e :: es) X.env = (false, eval e X.env) :: starEach es X.env := by rfl) (hpl : (backTo pos (starEach es X.env)).any (·.1) = false := by rfl) : AN X K E xF xb env [] (.Call (.Name x p) (e :: es) [] pos) (fun (k : D -> R β γ) => cs fun ds => R.lft (g ds) k) :=
  ⟨ha.1, fun B F H σ Q k G s w gx hk hG => ⟨_, pe_callB hc hg hm hv pa_C hn hdb he hpl, Zfd hd ha B F H σ Q k G s w gx hk hG⟩⟩
theorem Zg2 (hK : X.K = K := by rfl) : CallR X (.builtin "sorted") (rSortedI K) := hK ▸ cr_sortedI
end
def R.asS {β γ : Type} (d : D) (k : Str -> R β γ) : R β γ := match d with
  | .str z => k z
  | _ => .no
structure KdC (K : PySem.W.Frag) (w : World) (mg : Str -> Option Value) (x : Str) (ks : List Str) : Prop where
  ex : ∃ d es n, mg x = some (.ref d) ∧ KDict K w d es n ∧ ∀ z, ∃ r, PySem.W.nsIn K d z = some r ∧ r.isSome = ks.contains z
section
variable {X : Cx} {E : XE} {β γ : Type} {xF : Fm} {xb : β} {env : Fm} {e : Expr} {p pos : Pos} {x : Str} {ks : List Str} {c1 : (D -> R β γ) -> R β γ}
theorem Zcw (g : KdC X.K X.w X.mg x ks) (hg : Gl X x) (ha : AL X X.K E xF xb env e c1) (hdb : (x == ("__debug__" : Str)) = false := by decide) :
    AT X X.K E xF xb env (.Compare e [.NotIn] [.Name x p] pos) (fun (k : Bool -> R β γ) => c1 fun d => R.asS d fun z => k (!ks.contains z)) :=
  ⟨rfl, fun B F H σ Q k G s w gx hk hG => by
    obtain ⟨d, es, n, h1, h2, h3⟩ := g.ex
    refine ⟨_, pt_cmpR (op_notIn_kd h2) pe_C (pe_glob (v := .ref d) hg h1 rfl hdb) rfl, ha.2 B F H σ _ _ G s w gx (fun d' v F1 H1 g1 e1 eh1 s1 d1 => ?_) hG⟩
    cases d' <;> first | exact (gx.no g1).elim | skip
    rename_i z
    obtain ⟨r, r1, r2⟩ := h3 z
    exact ⟨z, r, d1.str, rfl, r1, ⟨_, rfl, hk _ _ F1 H1 g1 e1 eh1 s1 (by rw [r2])⟩⟩⟩
end
end DM
namespace DM
open PySem PySem.Spec PyProof.Rows L2 DL
theorem Z9l (l : Addr) (items : Array Value) (n : Nat) (dct : Option Addr) (sl : Array (Option Value)) :
    Meets (Builtin.«enumerate.__new__» ⟨[.type "enumerate", .ref l], []⟩) (fun _ R s => s.heap.get? l = some { cls := .type "tuple", dict := dct, data := .seq items n, slots := sl } ∧
      R (.ok (.ret (.ref (s.heap.push { cls := .type "tuple_iterator", data := .fields #[.ref l, .int 0 0] }).objs.size)))
        { s with heap := (s.heap.push { cls := .type "tuple_iterator", data := .fields #[.ref l, .int 0 0] }).push { cls := .type "enumerate", data := .fields #[.none, .bool false, .ref s.heap.objs.size, rawInt 0, .none, .none] } }) :=
  .of_wp fun prog w A R s h => by
    obtain ⟨hp, g, d, tk, os⟩ := s; obtain ⟨hl, h⟩ := h
    have hsub := sub_enumerate
    have hL : Heap.IsTuple (Shared.heap ⟨hp, g, d, tk, os⟩) l items := ⟨_, hl, rfl, n, rfl⟩
    wp_walk using wpAny_loadPart' hl
    refine wpAny_stack_any fun st => wpAny_pure ?_
    split
    · rename_i c _ _ _ _ _
      cases (c == Value.type "enumerate") <;> (wp_walk using wpAny_loadPart' hl, wpAny_pyIter_tuple hL; exact ⟨_, rfl, h⟩)
    · wp_walk using wpAny_loadPart' hl, wpAny_pyIter_tuple hL
      exact ⟨_, rfl, h⟩
theorem Zb7 {prog : Program} {w : World} {A : Around} {E : Value -> Shared -> Prop} {s : Shared} {l : Addr} {items : Array Value} {Q : Value -> Shared -> Prop} (hL : s.heap.IsTuple l items)
    (h : ∀ h', IsEnum h' (s.heap.objs.size + 1) s.heap.objs.size 0 .none -> h'.IsTupleIter s.heap.objs.size l 0 -> h'.IsTuple l items -> (∀ b o, s.heap.get? b = some o -> h'.get? b = some o) -> Q (.ref (s.heap.objs.size + 1)) { s with heap := h' }) :
    wpAny (model prog w) A (call (.type "enumerate") [.ref l]) Q E s := by
  have hL0 := hL
  obtain ⟨⟨c, dct, dt, sl⟩, hl, hc, n, hd⟩ := hL
  simp only at hc hd
  subst hc hd
  refine callType_new F.called_enumerate (by decide) (F.typeCall_enumerate_1 _) (F.newCall_enumerate_1 _) (fun obj => F.args_object_init_2 obj _) F.entry_enumerate_new (Z9l l items n dct sl) ⟨hl, ?_⟩
  have kp : ∀ b o, s.heap.get? b = some o -> ((s.heap.push { cls := .type "tuple_iterator", data := .fields #[.ref l, .int 0 0] }).push { cls := .type "enumerate", data := .fields #[.none, .bool false, .ref s.heap.objs.size, rawInt 0, .none, .none] }).get? b = some o := fun b o e => Heap.get?_push_of_some _ (Heap.get?_push_of_some _ e)
  have hz : (s.heap.push { cls := .type "tuple_iterator", data := .fields #[.ref l, .int 0 0] }).objs.size = s.heap.objs.size + 1 := Heap.size_push ..
  have he : IsEnum ((s.heap.push { cls := .type "tuple_iterator", data := .fields #[.ref l, .int 0 0] }).push { cls := .type "enumerate", data := .fields #[.none, .bool false, .ref s.heap.objs.size, rawInt 0, .none, .none] }) (s.heap.objs.size + 1) s.heap.objs.size 0 .none := by
    have q := Heap.get?_push_size (s.heap.push { cls := .type "tuple_iterator", data := .fields #[.ref l, .int 0 0] }) (o := { cls := .type "enumerate", data := .fields #[.none, .bool false, .ref s.heap.objs.size, rawInt 0, .none, .none] }) rfl
    rwa [hz] at q
  show _ ∧ _
  rw [hz]
  exact ⟨⟨_, he, rfl⟩, h _ he ⟨_, Heap.get?_push_of_some _ (Heap.get?_push_size _ rfl), rfl, rfl⟩ ⟨_, kp _ _ hl, rfl, n, rfl⟩ kp⟩
def ItU (K : PySem.W.Frag) (a : Addr) (xs : List V) : It where
  go := fun i H => SqT K H a xs ∧ ∃ x, xs[i]? = some x
  yld := fun i H v H' => ∃ T o x, v = .ref T ∧ H T = none ∧ o.dict = none ∧ H' = upd H T (.frz o (.tup [.int (i : Nat), x])) ∧ xs[i]? = some x
  stop := fun i H => SqT K H a xs ∧ xs.length ≤ i
theorem Zfi {P : Program} {w : World} {K : PySem.W.Frag} {elts : List Expr} {kk : Nat} {tpos : Pos} (a e it : Addr) (xs : List V) :
    Turn P w K (.Tuple elts kk tpos) (ItU K a xs) [e, it] e (fun i h => (∃ old, IsEnum h e it ((i : Nat) : Int) old) ∧ h.IsTupleIter it a i ∧ e ≠ it ∧ a ≠ it ∧ e ≠ a ∧ i ≤ xs.length) where
  mem := List.mem_cons_self
  obj := fun i h st b hb => by
    obtain ⟨⟨old, he⟩, ⟨o, ho, hc, hd⟩, _⟩ := st
    rcases List.mem_cons.mp hb with z | z
    · rw [z]; exact ⟨_, he, fun v q => nomatch q⟩
    · rw [List.mem_singleton.mp z]; exact ⟨o, ho, fun v q => by rw [hd] at q; cases q⟩
  keep := fun i h h' st k => ⟨let ⟨old, he⟩ := st.1; ⟨old, k e List.mem_cons_self _ he⟩, st.2.1.at fun o q => k it (by simp) o q, st.2.2⟩
  item := by
    intro X hP hw hK hc i pins s σ H E I hf st hg
    subst hP hw hK
    obtain ⟨⟨old, he⟩, hit, hne, hai, hea, hle⟩ := st
    obtain ⟨hq, x, hx⟩ := hg
    obtain ⟨its, rv, pl, hz⟩ := I.tuple hq
    obtain ⟨u, hu, ru⟩ := rv.get hx
    have hlt : i < its.toArray.size := by rw [List.size_toArray]; exact (List.getElem?_eq_some_iff.mp hu).1
    have big : ∀ b ∈ [e, it], b < s.heap.objs.size := fun b hb => by
      rcases List.mem_cons.mp hb with z | z
      · rw [z]; exact Heap.lt_size he
      · obtain ⟨_, q, _⟩ := hit
        rw [List.mem_singleton.mp z]; exact Heap.lt_size q
    refine wpAny_pyNext_enum_itemD (PySem.Draws.tuple (A := X.A.in1) (I.ok.hd hc) it a hai its.toArray) he ⟨hit, pl⟩ hlt hne (by simp [hne, hea]) fun y h1 tk hy ho hst hT hsz hk => ?_
    have hyu : y = u := by
      rw [List.getElem?_toArray, hu] at hy
      exact (Option.some.inj hy).symm
    subst hyu
    refine ⟨_, rfl, wpAny_letOwnedTupleGo_enum (s := { s with heap := h1, toks := tk + 1 }) ho fun h2 he' sb => ?_⟩
    have hT2 := (sb.2 _ (Nat.ne_of_gt (big e List.mem_cons_self))).trans hT
    refine ⟨.ref s.heap.objs.size, upd H s.heap.objs.size (.frz _ (.tup [.int (i : Nat), x])), I.turnedNew (ch := [e, it]) (fun b ob hb q => (sb.2 b (fun z => hb (by simp [z]))).trans (hk b ob (fun z => hb (by simp [z])) (fun z => hb (by simp [z])) q)) hf (Nat.le_refl _)
      (show _ = _ ∧ _ from ⟨hT2, (by decide : 2 ≤ sizeLine), [.int i tk, y], .cons ⟨_, rfl⟩ (.cons ru .nil), _, hT2, rfl, _, rfl⟩), rfl, ⟨_, _, x, rfl, I.hok.fresh (Nat.le_refl _), rfl, rfl, hx⟩, ⟨⟨y, by push_cast; exact he'⟩, hst.1.at fun o q => (sb.2 it (Ne.symm hne)).trans q, hne, hai, hea, (List.getElem?_eq_some_iff.mp hx).1⟩, fun b hb => ?_⟩
    rw [upd_ne (Nat.ne_of_lt (big b hb))]
    exact (hf b hb).1
  done := by
    intro X hP hw hK hc i pins s σ H E I hf st hg
    subst hP hw hK
    obtain ⟨⟨old, he⟩, hit, hne, hai, hea, hle⟩ := st
    obtain ⟨hq, hx⟩ := hg
    obtain ⟨its, rv, pl, hz⟩ := I.tuple hq
    obtain ⟨f0, f1, f2, f3, f4, f5⟩ := hf it (by simp)
    have hsz : its.toArray.size = i := by rw [List.size_toArray, ← rv.length]; exact Nat.le_antisymm hx hle
    have D := PySem.Draws.tuple (prog := X.prog) (w := X.w) (A := X.A.in1) (I.ok.hd hc) it a hai its.toArray
    exact wpAny_pyNext_enum_endD D he (by rw [hsz]; exact ⟨hit, pl⟩) fun h' eb => ⟨rfl, I.turned (t' := s.toks) (fun b o hb q => eb b o hb q) f0 f1 f3 f4 f5⟩
  self := fun A i s Q E st h => let ⟨⟨_, he⟩, _⟩ := st; wpAny_pyIter_enum he h
section
variable {X : Cx} {K : PySem.W.Frag} {E : XE} {β γ : Type} {xF : Fm} {xb : β} {env : Fm} {tg e a b : Expr} {pos p : Pos} {c1 c2 : (D -> R β γ) -> R β γ}
theorem fp2 {pins : List (Addr × Obj)} {σ : L2.St} {H : Hp} {s : Shared} (I : Inv X pins σ H s) : ∀ b ∈ [s.heap.objs.size + 1, s.heap.objs.size], FpOk X pins H b := fun b hb => by
  have hle : s.heap.objs.size ≤ b := by
    rcases List.mem_cons.mp hb with z | z
    · rw [z]; exact Nat.le_succ _
    · rw [List.mem_singleton.mp z]; exact Nat.le_refl _
  exact I.fpOk hle (I.hok.fresh hle)
theorem Zjf {ta : TA} {elts : List Expr} {kk : Nat} {tpos : Pos} (hg : Gl X "enumerate") (hm : X.mg "enumerate" = none) (ha : PA X [e] ta) (hs : starEach [e] X.env = [(false, eval e X.env)] := by rfl) :
    PI X (.Tuple elts kk tpos) (.Call (.Name "enumerate" p) [e] [] pos) (fun σ H R => ta σ H fun vs H1 => ∃ a xs, vs = [.ref a] ∧ ((SqL X.K H1 a xs ∧ R (ItE X.K a) H1) ∨ (SqT X.K H1 a xs ∧ R (ItU X.K a xs) H1))) := by
  refine ⟨fun pins s σ H R I h => Call_ (ld_blt I hg hm boot_enumerate (PyProof.Rows.callWith_type1 (thn (ha.run pos pins s σ H _ I h) fun us s1 ⟨vs, H1, I1, r1, q1⟩ => ?_) hs rfl))⟩
  obtain ⟨a, xs, rfl, hor⟩ := q1
  obtain ⟨u, rfl, ru⟩ := vals1 r1
  cases ru
  rcases hor with ⟨hq, q⟩ | ⟨hq, q⟩
  · obtain ⟨its, rv, pl, hz⟩ := I1.list hq
    exact call_enumerate_list pl.isList fun h' he hit hsz hk => wpAny_pyIter_enum he ⟨s1.heap.objs.size + 1, [s1.heap.objs.size + 1, s1.heap.objs.size], _, _, H1, rfl, I1.kept (t' := s1.toks) hk, Zfh a (s1.heap.objs.size + 1) s1.heap.objs.size, ⟨⟨.none, he⟩, hit, Nat.succ_ne_self _⟩, fp2 I1, q⟩
  · obtain ⟨its, rv, pl, hz⟩ := I1.tuple hq
    have hlt : a < s1.heap.objs.size := by obtain ⟨o, ho, _⟩ := pl; exact Heap.lt_size ho
    exact Zb7 pl fun h' he hit _ hk => wpAny_pyIter_enum he ⟨s1.heap.objs.size + 1, [s1.heap.objs.size + 1, s1.heap.objs.size], _, _, H1, rfl, I1.kept (t' := s1.toks) hk, Zfi a (s1.heap.objs.size + 1) s1.heap.objs.size xs, ⟨⟨.none, he⟩, hit, Nat.succ_ne_self _, Nat.ne_of_lt hlt, Nat.ne_of_gt (Nat.lt_succ_of_lt hlt), Nat.zero_le _⟩, fp2 I1, q⟩
theorem Zjb {F : Hp} {q : Addr} {xs : List V} {ds : List D} (h1 : SqT K F q xs) (h2 : DrA K F xs ds) : rI K F (ItU K q xs) (Z6q ds) := by
  intro F2 H2 e2 e3
  have hqq := (e2.trans e3).st h1
  refine ⟨fun i hi => ?_, fun i hi => ⟨hqq, by rw [h2.length]; rw [Z4r] at hi; exact hi⟩, fun i x H3 d hd hy => Or.inr ?_⟩
  · rw [Z4r] at hi
    obtain ⟨v, e, _⟩ := h2.get (List.getElem?_eq_getElem hi)
    exact ⟨hqq, v, e⟩
  · obtain ⟨T, o, x', rfl, hT, ho, rfl, hx⟩ := hy
    obtain ⟨e, he, rfl⟩ := Zcs hd
    obtain ⟨v, ev, hv⟩ := h2.get he
    rw [ev] at hx
    cases hx
    have hF : F2 T = none := e3.none hT
    exact ⟨T, _, hT, rfl, .tup (Or.inl ⟨o, upd_same, ho⟩) (.cons (.int _) (.cons ((hv.mono e2).mono (Ex.new hF)) .nil))⟩
def R.enumA (d : D) (k : List D -> R β γ) : R β γ := match d with
  | .lst ds => k (Z6q ds)
  | .tup ds => k (Z6q ds)
  | _ => .no
theorem Z69 {elts : List Expr} {kk : Nat} {tpos : Pos} (hm : X.mg "enumerate" = none) (hg : Gl X "enumerate") (ha : AE X K E xF xb env a c1) (hs : starEach [a] X.env = [(false, eval a X.env)] := by rfl) :
    AI X K E xF xb env (.Tuple elts kk tpos) (.Call (.Name "enumerate" p) [a] [] pos) (fun (k : List D -> R β γ) => c1 fun d => R.enumA d k) := by
  have hK := ha.1
  subst hK
  exact ⟨rfl, fun B F H σ Q k G s w gx hk hG => ⟨_, Zjf hg hm (pa_cons pe_C pa_nil hs) hs, ha.2 B F H σ _ _ G s w gx (fun d v F1 H1 h1 e1 eh1 s1 d1 => by
    cases d <;> first | exact (gx.no h1).elim | skip
    · cases d1 with
      | lst h2 h3 => exact ⟨_, _, rfl, .inl ⟨.inl (s1.ex.rd h2), hk _ _ F1 H1 h1 e1 eh1 s1 (Zm8 h2 h3)⟩⟩
    · cases d1 with
      | tup h2 h3 => exact ⟨_, _, rfl, .inr ⟨s1.ex.st h2.sq, hk _ _ F1 H1 h1 e1 eh1 s1 (Zjb h2.sq h3)⟩⟩) hG⟩⟩
end
end DM
namespace DM
open PySem PySem.Spec PyProof.Rows PySem.W L2 DL NdefX
def tsT (X : Cx) (c : Code) (st : List Stmt) : TS := fun Dn σ H => ∀ (pins : List (Addr × Obj)) (s : Shared), Inv X pins σ H s -> _root_.PySem.wpAt (model X.prog X.w) X.A c (execs st X.env) (SP X pins Dn) X.xe s
def ABt (X : Cx) (c : Code) (K : PySem.W.Frag) (E : XE) {β ω : Type} (κ : Kt β ω) (env : Fm) (st : List Stmt) (m : R β ω) : Prop :=
  X.K = K ∧ ∀ B F H σ Dn (G : R β ω -> Prop), SR K B F H σ env -> Gs K B E κ F Dn G -> G m -> tsT X c st Dn σ H
section
variable {X : Cx} {c : Code} {K : PySem.W.Frag} {E : XE} {β ω : Type} {κ : Kt β ω} {env : Fm} {st a b : List Stmt} {m : R β ω}
theorem ABt.eq {m' : R β ω} (h : ABt X c K E κ env st m) (e : m = m') : ABt X c K E κ env st m' := e ▸ h
end
end DM
namespace DM
open PySem PySem.Spec PyProof.Rows PySem.W L2 DL NdefX
end DM
namespace DM
open PySem PySem.Spec PyProof.Rows L2 DL
section
variable {X : Cx}
def rCnt (K : PySem.W.Frag) (mk : List PyData -> PyData) : V -> List V -> Hp -> VK -> Prop := fun x xs H Q => ∃ (a : Addr) (y : V) (d : PyData) (ds : List PyData), x = V.ref a ∧ xs = [y] ∧ Dp K H (V.ref a) (mk ds) ∧ Dp K H y d ∧ SeqAt.shaped (mk ds) = true ∧ SeqAt.shaped d = true ∧ Q (.int ((ds.countP fun z => PyData.eqv z d : Nat) : Int)) H
theorem Zmr (hu : X.A.units + 65 < cLine) : MtR X "list.count" (rCnt X.K .list) := by
  intro pins s σ H x xs v us Q I rx rxs h
  obtain ⟨a, y, d, ds, rfl, rfl, hl, hy, sl, sd, q⟩ := h
  cases rx
  cases rxs with
  | cons ry rt =>
    rename_i uy ut
    cases rt
    obtain ⟨bs, r1⟩ := Dp.reads I d y uy hy ry
    have hxs : PyData.canLayAll0 ds = true := SeqAt.canLay_of_shaped sl
    have hroom : X.A.units + 1 + min (PyData.depthAll ds) d.depth < cLine := room_in_shaped sd hu
    cases hl with
    | lst hs ha =>
      obtain ⟨its, rv, ⟨ol, nl, pl1, pl2, pl3, pl4⟩, hz⟩ := I.list hs
      have hg : s.heap.IsList a its.toArray := ⟨ol, pl1, pl2, nl, pl4⟩
      obtain ⟨as, h4⟩ := Dp.readsAll I ds _ its ha rv
      exact SeqAt.count_list_data (vs := its.toArray) hg (show ReadsAll s.heap its.toArray.toList ds as from h4) r1 (PyData.plainAll_of_canLay0 _ hxs) (PyData.plain_of_canLay0 _ (SeqAt.canLay_of_shaped sd)) hroom ⟨.int _, H, I.tok _, ⟨_, rfl⟩, q⟩
theorem Zmq (hu : X.A.units + 65 < cLine) : MtR X "tuple.count" (rCnt X.K .tuple) := by
  intro pins s σ H x xs v us Q I rx rxs h
  obtain ⟨a, y, d, ds, rfl, rfl, hl, hy, sl, sd, q⟩ := h
  cases rx
  cases rxs with
  | cons ry rt =>
    rename_i uy ut
    cases rt
    obtain ⟨bs, r1⟩ := Dp.reads I d y uy hy ry
    have hxs : PyData.canLayAll0 ds = true := SeqAt.canLay_of_shaped sl
    have hroom : X.A.units + 1 + min (PyData.depthAll ds) d.depth < cLine := room_in_shaped sd hu
    cases hl with
    | tup hs ha =>
      obtain ⟨its, rv, hg, hz⟩ := I.tuple hs
      obtain ⟨as, h4⟩ := Dp.readsAll I ds _ its ha rv
      exact SeqAt.count_tuple_data (vs := its.toArray) hg (show ReadsAll s.heap its.toArray.toList ds as from h4) r1 (PyData.plainAll_of_canLay0 _ hxs) (PyData.plain_of_canLay0 _ (SeqAt.canLay_of_shaped sd)) hroom ⟨.int _, H, I.tok _, ⟨_, rfl⟩, q⟩
end
def cntG : D -> List D -> Option D := fun x as => match x, as with
  | .lst ds, [y] => if shp y && shp (.lst ds) then some (.int (((pds ds).countP fun z => PyData.eqv z (pd y) : Nat) : Int)) else none
  | .tup ds, [y] => if shp y && shp (.tup ds) then some (.int (((pds ds).countP fun z => PyData.eqv z (pd y) : Nat) : Int)) else none
  | _, _ => none
section
variable {X : Cx} {K : PySem.W.Frag} {E : XE} {β γ : Type} {xF : Fm} {xb : β} {env : Fm} {e o : Expr} {p pos apos : Pos} {c1 : (D -> R β γ) -> R β γ} {cs : (List D -> R β γ) -> R β γ}
theorem Zqv (hu : X.A.units + 65 < cLine) (h : AL X K E xF xb env o c1) (ha : AAL X K E xF xb env [e] cs) (hbase : attributeBase o "count" X.env (eval o X.env) = eval o X.env := by rfl)
    (hfew : ((backTo pos (starEach [e] X.env)).all (fun x => !x.1) && (backToKw pos (keywordEach [] X.env)).all (fun x => x.1.isSome)
      && decide (([e] : List Expr).length + ([] : List Keyword).length + (if ([] : List Keyword).isEmpty then 0 else 1) < 30)) = true := by rfl) (hline : (apos.endLine == pos.line) = true := by rfl) (hs : starEach [e] X.env = (false, eval e X.env) :: starEach [] X.env := by rfl) :
    AE X K E xF xb env (.Call (.Attribute o "count" apos) [e] [] pos) (fun (k : D -> R β γ) => c1 fun x => R.asQ x fun _ => cs fun as => R.lft (cntG x as) k) := by
  have hK := h.1
  subst hK
  refine ⟨rfl, fun B F H σ Q k G s w gx hk hG => ⟨_, Zky PySem.F.plainAttrs_list PySem.F.slot_list_count PySem.F.type_list_count (Zmr hu) PySem.F.plainAttrs_tuple PySem.F.slot_tuple_count PySem.F.type_tuple_count (Zmq hu) pe_C pa_C hbase hfew hline hs rfl, ?_⟩⟩
  refine h.2 B F H σ _ _ G s w gx (fun x v F1 H1 h1 e1 eh1 s1 d1 => ?_) hG
  cases x <;> first | exact (gx.no h1).elim | skip
  · rename_i ds
    obtain ⟨a, xs, rfl, g1, g2⟩ := d1.lst s1.ex
    refine Or.inl ⟨Or.inl ⟨rfl, xs, g1⟩, ha.2 B F1 H1 σ _ _ G s1 w (gx.mono e1) (fun as vs F2 H2 h2 e2 eh2 s2 d2 => ?_) h1⟩
    match as, vs, d2, h2 with
    | [y], [u], d2, h2 =>
      have h2 : G (R.lft (if shp y && shp (.lst ds) then some (D.int (((pds ds).countP fun z => PyData.eqv z (pd y) : Nat) : Int)) else none) k) := h2
      split at h2
      · rename_i hc
        rw [Bool.and_eq_true] at hc
        have hsl : SeqAt.shaped (.list (pds ds)) = true := by have := hc.2; unfold shp at this; rwa [pd] at this
        exact ⟨a, u, pd y, pds ds, rfl, rfl, .lst (eh2.sl g1) (Z8g s2.ex (g2.mono e2) (SeqAt.canLay_of_shaped hsl)), (d2.1.all s2.ex).pd (SeqAt.canLay_of_shaped hc.1), hsl, hc.1, hk _ _ F2 H2 h2 (e1.trans e2) (eh1.trans eh2) s2 (.int _)⟩
      · exact (gx.no h2).elim
    | [], _, _, h2 => exact (gx.no h2).elim
    | _ :: _ :: _, _, _, h2 => exact (gx.no h2).elim
    | [_], [], d2, _ => exact d2.elim
    | [_], _ :: _ :: _, d2, _ => exact d2.2.elim
  · rename_i ds
    obtain ⟨a, xs, rfl, g0, g2⟩ := d1.tupZ s1.ex
    have g1 := g0.sq
    refine Or.inr ⟨⟨a, xs, rfl, g0⟩, ha.2 B F1 H1 σ _ _ G s1 w (gx.mono e1) (fun as vs F2 H2 h2 e2 eh2 s2 d2 => ?_) h1⟩
    match as, vs, d2, h2 with
    | [y], [u], d2, h2 =>
      have h2 : G (R.lft (if shp y && shp (.tup ds) then some (D.int (((pds ds).countP fun z => PyData.eqv z (pd y) : Nat) : Int)) else none) k) := h2
      split at h2
      · rename_i hc
        rw [Bool.and_eq_true] at hc
        have hsl : SeqAt.shaped (.tuple (pds ds)) = true := by have := hc.2; unfold shp at this; rwa [pd] at this
        exact ⟨a, u, pd y, pds ds, rfl, rfl, .tup (eh2.st g1) (Z8g s2.ex (g2.mono e2) (SeqAt.canLay_of_shaped hsl)), (d2.1.all s2.ex).pd (SeqAt.canLay_of_shaped hc.1), hsl, hc.1, hk _ _ F2 H2 h2 (e1.trans e2) (eh1.trans eh2) s2 (.int _)⟩
      · exact (gx.no h2).elim
    | [], _, _, h2 => exact (gx.no h2).elim
    | _ :: _ :: _, _, _, h2 => exact (gx.no h2).elim
    | [_], [], d2, _ => exact d2.elim
    | [_], _ :: _ :: _, d2, _ => exact d2.2.elim
end
end DM
namespace DM
open PySem PySem.Spec PyProof.Rows L2 DL
def R.len {β γ : Type} (mt : Str -> Option (List D -> R Unit D)) (d : D) (k : D -> R β γ) : R β γ := match d with
  | .obj C fs => match mt C with
    | some mf => match mf [.obj C fs] with
      | .ok (.int n) => if decide (0 ≤ n) && decide (n < 2 ^ 63) then k (.int n) else .no
      | _ => .no
    | none => .no
  | _ => .no
end DM
namespace DM
open PySem PySem.Spec PyProof.Rows L2 DL
section
variable {X : Cx} {K : PySem.W.Frag} {E : XE} {β γ : Type} {xF : Fm} {xb : β} {env : Fm} {a b : Expr} {p pos : Pos} {c1 c2 : (D -> R β γ) -> R β γ} {k : Nat} {m : Str} {mt : Str -> Option (List D -> R Unit D)}
def TyB (X : Cx) (H : Hp) (y : V) (t : Value) : Prop := TyX X.K H y t ∨ ∃ a c dx fs, y = .ref a ∧ H a = some (.ins c dx fs) ∧ t = .ref c
theorem TyB.look {pins : List (Addr × Obj)} {σ : L2.St} {H : Hp} {s : Shared} {y : V} {u t : Value} (I : Inv X pins σ H s) (r : RelV y u) (h : TyB X H y t) : PySem.W.Looks (model X.prog X.w) s.heap (typeOf u) t := by
  rcases h with h | ⟨a, c, dx, fs, rfl, ea, rfl⟩
  · obtain ⟨P, Z, p, _⟩ := kit_of I r h
    exact Z.ty _ _ I.kIn p
  · obtain rfl : u = Value.ref a := r
    obtain ⟨mA, O, _, _, _, _⟩ := ins_get I.hok ea
    obtain ⟨od, J, _⟩ := O.look
    exact J.type
end
end DM
namespace DM
open PySem PySem.Spec PyProof.Rows L2 DL
end DM
namespace DM
open PySem PySem.Spec PyProof.Rows L2 DL
section
variable {K : PySem.W.Frag} {B B' : Bs} {F H F' H' : Hp} {σ σ' : L2.St} {env as : Fm} {ft : Nat -> List Addr}
theorem Hs.putE (hl : σ.length = env.length) (h : Hs K B F H σ env ft) (i : Nat) {p : Addr} {S : List Addr} {t : Option Nat} {d : D} {fs : List Str} (h1 : Own K F H p d fs S) (h2 : ∀ a ∈ S, F a = none ∧ (B.H0 a = none ∨ B.ps a)) (h3 : ∀ a ∈ S, ¬ owned env ft a) (h4 : ∀ k, t = some k -> B.par k = some p) :
    Hs K B F H (σ.set i (some (.ref p))) (fput env i (.ow t d fs)) (fun j => if j = i then S else ft j) := by
  refine ⟨fun j t' d' fs' he => ?_, fun j k t1 t2 d1 d2 f1 f2 hjk e1 e2 a a1 a2 => ?_⟩
  · by_cases hij : i = j
    · subst hij
      have hl' : i < env.length := by have := Z36 he (fun z => nomatch z); rw [Z1a] at this; exact this
      rw [Z1o hl'] at he
      cases he
      refine ⟨p, List.getElem?_set_self (by rw [hl]; exact hl'), ?_⟩
      simp only [if_pos]
      exact ⟨h1, h2, h4⟩
    · rw [Zz _ _ hij] at he
      rw [getσ hij]
      simp only [if_neg (Ne.symm hij)]
      exact h.ow j t' d' fs' he
  · have key : ∀ {m : Nat} {t3 : Option Nat} {d3 : D} {f3 : List Str}, i ≠ m -> fget (fput env i (.ow t d fs)) m = .ow t3 d3 f3 -> a ∈ S -> a ∈ ft m -> False := fun {m t3 d3 f3} him e3 b1 b2 => by
      rw [Zz _ _ him] at e3
      exact h3 a b1 ⟨m, t3, d3, f3, e3, b2⟩
    by_cases hj : j = i
    · subst hj
      simp only [if_pos] at a1
      rw [if_neg (Ne.symm hjk)] at a2
      exact key hjk e2 a1 a2
    · simp only [if_neg hj] at a1
      by_cases hk : k = i
      · subst hk
        simp only [if_pos] at a2
        exact key (Ne.symm hjk) e1 a2 a1
      · simp only [if_neg hk] at a2
        rw [Zz _ _ (Ne.symm hj)] at e1
        rw [Zz _ _ (Ne.symm hk)] at e2
        exact h.dis j k t1 t2 d1 d2 f1 f2 hjk e1 e2 a a1 a2
theorem SR.putE (s : SR K B F H σ env) (h : Hs K B F H σ env ft) (i : Nat) {p : Addr} {S : List Addr} {t : Option Nat} {d : D} {fs : List Str} (h1 : Own K F H p d fs S) (h2 : ∀ a ∈ S, F a = none ∧ (B.H0 a = none ∨ B.ps a)) (h3 : ∀ a ∈ S, ¬ owned env ft a) (h4 : ∀ k, t = some k -> B.par k = some p) :
    SR K B F H (σ.set i (some (.ref p))) (fput env i (.ow t d fs)) := by
  have u := s.setU i (some (.ref p))
  refine ⟨s.ex, s.ex0, s.keep, s.newF, by rw [List.length_set, Z1a]; exact s.len, fun j d' e => ?_, fun j a d' gs e => ?_, _, h.putE s.len i h1 h2 h3 h4⟩
  · have hij : i ≠ j := fun z => by
      subst z
      have hl' : i < env.length := by have := Z36 e (fun z => nomatch z); rw [Z1a] at this; exact this
      rw [Z1o hl'] at e; cases e
    rw [Zz _ _ hij] at e
    exact u.fz j d' (by rw [Zz _ _ hij]; exact e)
  · have hij : i ≠ j := fun z => by
      subst z
      have hl' : i < env.length := by have := Z36 e (fun z => nomatch z); rw [Z1a] at this; exact this
      rw [Z1o hl'] at e; cases e
    rw [Zz _ _ hij] at e
    exact u.xc j a d' gs (by rw [Zz _ _ hij]; exact e)
theorem SR.afterE {S : List Addr} (s : SR K B F H σ env) (hf : Hs K B F H σ env ft) (hS : ∀ a ∈ S, F a = none ∧ (B.H0 a = none ∨ B.ps a)) (hn : ∀ a ∈ S, ¬ owned env ft a) (r : SR K B' F' H' σ' as) (hF : B'.F0 = F) (hH : B'.H0 = H) (hps : ∀ p, B'.ps p -> p ∈ S) : SR K B F' H' σ env ∧ Hs K B F' H' σ env ft := by
  have e0 : Ex F F' := by have := r.ex0; rw [hF] at this; exact this
  have eh : ∀ a o, a ∉ S -> H a = some o -> H' a = some o := fun a o hna h => r.keep a o (by rw [hH]; exact h) fun z => hna (hps a z)
  have hnew : ∀ a o, F' a = some o -> F a = some o ∨ H a = none ∨ a ∈ S := fun a o h => by
    rcases r.newF a o h with z | z | z
    · rw [hF] at z
      cases q : F a with
      | none => exact absurd q z
      | some u =>
        have := e0 a u q
        rw [h] at this
        cases this
        exact .inl rfl
    · rw [hH] at z; exact .inr (.inl z)
    · exact .inr (.inr (hps a z))
  have hH : Hs K B F' H' σ env ft := hf.congr e0 fun a ha => by
    obtain ⟨h1, ⟨u, h2⟩, _⟩ := hf.owned_b ha
    have hna : a ∉ S := fun z => hn a z ha
    refine ⟨by rw [eh a u hna h2, h2], ?_⟩
    cases q : F' a with
    | none => rfl
    | some o =>
      rcases hnew a o q with z | z | z
      · rw [h1] at z; cases z
      · rw [h2] at z; cases z
      · exact absurd z hna
  refine ⟨⟨r.ex, s.ex0.trans e0, fun a o h n => eh a o (fun z => ?_) (s.keep a o h n), fun a o h => ?_, s.len, fun i d h1 => ?_, fun i a d gs h1 => ?_, ft, hH⟩, hH⟩
  · rcases (hS a z).2 with q | q
    · rw [h] at q; cases q
    · exact n q
  · rcases hnew a o h with z | z | z
    · exact s.newF a o z
    · exact Or.inr (s.new_b z)
    · exact Or.inr (hS a z).2
  · obtain ⟨v, h2, h3⟩ := s.fz i d h1
    exact ⟨v, h2, h3.mono e0⟩
  · obtain ⟨h2, fs, h3, h4, h5⟩ := s.xc i a d gs h1
    exact ⟨h2, fs, e0 _ _ h3, h4, h5.mono e0⟩
end
section
variable {K : PySem.W.Frag} {env : Fm} {n l : Nat}
theorem Zjk {ds : List D} {ft : Nat -> List Addr} {a : Addr} : ¬ owned (ds.map .fz) ft a := by
  rintro ⟨i, t, d, fs, h, _⟩
  obtain ⟨d', _, z⟩ := Z96 h fun z => nomatch z
  cases z
end
section
theorem Z5r : ∀ (os : List D) (ms : Mask) (j : Nat), (Z11 os ms j).length = ms.length
  | os, none :: ms, j => by cases os <;> exact congrArg (· + 1) (Z5r _ ms (j + 1))
  | o :: os, some fs :: ms, j => congrArg (· + 1) (Z5r os ms (j + 1))
  | [], some _ :: ms, j => congrArg (· + 1) (Z5r [] ms (j + 1))
  | [], [], _ => rfl
  | _ :: _, [], _ => rfl
theorem Z5q : ∀ (os : List D) (ms : Mask) (j k : Nat) {x : Sl}, fget (Z11 os ms j) k = x -> x = .un ∨ ∃ d fs, x = .ow (some (j + k)) d fs
  | os, none :: ms, j, 0, x, h => by cases os <;> exact .inl h.symm
  | os, none :: ms, j, k + 1, x, h => by
    have := Z5q os ms (j + 1) k (x := x) (by cases os <;> exact h)
    rwa [show j + 1 + k = j + (k + 1) by omega] at this
  | o :: os, some fs :: ms, j, 0, x, h => .inr ⟨o, fs, h.symm⟩
  | o :: os, some fs :: ms, j, k + 1, x, h => by
    have := Z5q os ms (j + 1) k (x := x) h
    rwa [show j + 1 + k = j + (k + 1) by omega] at this
  | [], some _ :: ms, j, 0, x, h => .inl h.symm
  | [], some _ :: ms, j, k + 1, x, h => by
    have := Z5q [] ms (j + 1) k (x := x) h
    rwa [show j + 1 + k = j + (k + 1) by omega] at this
  | [], [], _, _, x, h => .inl h.symm
  | _ :: _, [], _, _, x, h => .inl h.symm
theorem Zd7 : ∀ (ms : Mask) (j k : Nat) {t : Option Nat} {d : D} {fs : List Str}, fget (Z11 [] ms j) k ≠ .ow t d fs
  | none :: ms, j, 0, t, d, fs => fun h => by cases h
  | none :: ms, j, k + 1, t, d, fs => Zd7 ms (j + 1) k
  | some _ :: ms, j, 0, t, d, fs => fun h => by cases h
  | some _ :: ms, j, k + 1, t, d, fs => Zd7 ms (j + 1) k
  | [], _, _, _, _, _ => fun h => by cases h
def Lm (m : List D -> R Unit (D × List D)) : List D -> R (List D) (D × List D) := fun ds => match m ds with
  | .ok (d, os) => .ok (d, os)
  | .ex x _ => .ex x []
  | .no => .no
def outF (N : Nat) (mask : Mask) (os : List D) : Fm := Z11 os mask 0 ++ List.replicate (N - mask.length) .un
def kM (N : Nat) (mask : Mask) (nw : Option (List Str)) : Kt Unit (D × List D) where
  fx := fun _ => List.replicate N .un
  Sn := List D
  fn := fun os => outF N mask os
  kn := fun os => match nw with
    | none => .ok (.non, os)
    | some _ => .no
  Sb := Empty
  fb := fun z => z.elim
  kb := fun z => z.elim
  Sc := Empty
  fc := fun z => z.elim
  kc := fun z => z.elim
  Sr := List D
  fr := fun os => outF N mask os
  kr := fun d os => .ok (d, os)
  nw := nw
variable {P : Program} {w : World} {K : PySem.W.Frag} {mg : Str -> Option Value} {base : Heap}
theorem Zej {B : Bs} {F H : Hp} {σ' : L2.St} {vs : List V} {N : Nat} {mask : Mask} {os : List D} (hpar : B.par = Z33 vs) (hl : vs.length = mask.length) (r : SR K B F H σ' (outF N mask os)) : SR K B F H (vs.map some) (Z11 os mask 0) ∧ ∀ ft, Hs K B F H (vs.map some) (Z11 os mask 0) ft -> Hs K B F H σ' (outF N mask os) ft := by
  have up : ∀ {k : Nat} {x : Sl}, x ≠ .un -> fget (Z11 os mask 0) k = x -> fget (outF N mask os) k = x := fun {k x} hx h => by
    unfold outF
    rw [Zb4 _ _ _ (by have := Z36 h hx; exact this)]
    exact h
  have down : ∀ {k : Nat} {x : Sl}, x ≠ .un -> fget (outF N mask os) k = x -> fget (Z11 os mask 0) k = x := fun {k x} hx h => Z5k _ _ _ h hx
  have val : ∀ {k : Nat} {p : Addr}, B.par k = some p -> (vs.map some)[k]? = some (some (V.ref p)) := fun {k p} h => by
    rw [hpar] at h
    unfold Z33 at h
    split at h
    · rename_i e
      cases h
      rw [List.getElem?_map, e]
      rfl
    · cases h
  obtain ⟨ft', hf'⟩ := r.own
  have tag : ∀ {k : Nat} {t : Option Nat} {d : D} {fs : List Str}, fget (Z11 os mask 0) k = .ow t d fs -> t = some k := fun {k t d fs} h => by
    rcases Z5q os mask 0 k h with z | ⟨d', f', z⟩
    · cases z
    · cases z
      rw [Nat.zero_add]
  refine ⟨⟨r.ex, r.ex0, r.keep, r.newF, by rw [List.length_map, Z5r]; exact hl, fun j d h => ?_, fun j a d gs h => ?_, ft', fun j t d fs h => ?_, fun j k t u d e fs gs hjk e1 e2 => hf'.dis j k t u d e fs gs hjk (up (fun z => nomatch z) e1) (up (fun z => nomatch z) e2)⟩, fun ft hf => ⟨fun j t d fs h => ?_, fun j k t u d e fs gs hjk e1 e2 => hf.dis j k t u d e fs gs hjk (down (fun z => nomatch z) e1) (down (fun z => nomatch z) e2)⟩⟩
  · rcases Z5q os mask 0 j h with z | ⟨d', f', z⟩ <;> cases z
  · rcases Z5q os mask 0 j h with z | ⟨d', f', z⟩ <;> cases z
  · obtain ⟨p, g1, g2, g3, g4⟩ := hf'.ow j t d fs (up (fun z => nomatch z) h)
    have ht := tag h
    exact ⟨p, val (g4 j ht), g2, g3, g4⟩
  · have h0 : fget (Z11 os mask 0) j = .ow t d fs := down (fun z => nomatch z) h
    obtain ⟨p, g1, g2, g3, g4⟩ := hf.ow j t d fs h0
    obtain ⟨p', k1, k2, k3, k4⟩ := hf'.ow j t d fs h
    have ht := tag h0
    have e := (g4 j ht).symm.trans (k4 j ht)
    cases e
    exact ⟨p, k1, g2, g3, g4⟩
theorem Zrg {qual : Str} {st : Stmt} {f : Addr} {N ps : List Str} {k : Nat} {mask : Mask} {nw : Option (List Str)} {mf : List D -> R Unit (D × List D)} (S : FnScope N ps (defScope st)) (hn : ps.length = mask.length)
    (hbody : ∀ (cdv : Value) (A : Around) (outer : List Env) (s : Shared) (H : Hp) (E : XK), Room k (A.deeper (envOfC qual (defScope st) s.heap.objs.size f cdv)) -> Quiet (A.deeper (envOfC qual (defScope st) s.heap.objs.size f cdv)) ->
      Z9g (cxOf (L2.CX P w) P w K mg base N qual (defScope st) f cdv A outer s H E) (fun _ => E) -> (∀ σ, PassesAt (L2.CX P w) (cxOf (L2.CX P w) P w K mg base N qual (defScope st) f cdv A outer s H E) σ E) -> PassesOwn (model P w) (A.deeper (envOfC qual (defScope st) s.heap.objs.size f cdv)) (cxOf (L2.CX P w) P w K mg base N qual (defScope st) f cdv A outer s H E).env (cxOf (L2.CX P w) P w K mg base N qual (defScope st) f cdv A outer s H E).xe ->
      ∀ ds, ds.length = mask.length -> AB (cxOf (L2.CX P w) P w K mg base N qual (defScope st) f cdv A outer s H E) K (fun _ => E) (kM N.length mask nw) (Z3h ds mask 0 ++ List.replicate (N.length - mask.length) .un) (defBody st) (mf ds)) :
    Bod P w K mg base N qual st f k (spM K mask nw (Lm mf)) := by
  intro cdv A outer s H vs Q E hr hG0 h
  obtain ⟨hl, F, ds, q, hdl, sr, hq⟩ := h
  have tk : Takes (cxOf (L2.CX P w) P w K mg base N qual (defScope st) f cdv A outer s H E) (fun cls d _ H => E cls d H) := takes_of rfl rfl rfl rfl
  have key : tsC (cxOf (L2.CX P w) P w K mg base N qual (defScope st) f cdv A outer s H E) (defBody st) { nx := fun _ H' => Q .non H', rt := Q } (vs.map some ++ List.replicate (N.length - mask.length) none) H := by
    refine (hbody cdv A outer s H E hr hG0 tk (fun σ => passAt tk σ) (passes_of rfl) ds hdl).2 ⟨F, H, q, Z33 vs⟩ F H (vs.map some ++ List.replicate (N.length - mask.length) none) { nx := fun _ H' => Q .non H', rt := Q }
      (fun m => Zkp K ⟨F, H, q, Z33 vs⟩ F (vs.map some) E nw mask Q (match m with
        | .ok (d, os) => .ok (d, os)
        | .ex x _ => .ex x []
        | .no => .no)) (sr.start _) ⟨fun z => z, fun y b hy c dd F' H' σ' e1 s1 x1 => hy c dd F' H' e1 (s1.unAll (fun j => ?_) (by rw [List.length_map, Z5r]; exact hl)) x1, fun z hz F' H' σ' e1 s1 => ?_, fun z => z.elim, fun z => z.elim, fun d z hz v F' H' σ' e1 s1 r1 => ?_⟩ hq
    · cases hx : fget (Z11 [] mask 0) j with
      | un => rfl
      | fz d => rcases Z5q [] mask 0 j hx with z | ⟨_, _, z⟩ <;> cases z
      | xc a d gs => rcases Z5q [] mask 0 j hx with z | ⟨_, _, z⟩ <;> cases z
      | ow t d fs => exact absurd hx (Zd7 mask 0 j)
    · cases nw with
      | none => exact hz .non F' H' e1 (Zej rfl hl s1).1 .non
      | some fs => exact False.elim hz
    · obtain ⟨g1, g2⟩ := Zej rfl hl s1
      refine hz v F' H' e1 g1 ?_
      cases nw with
      | none => exact r1
      | some fs =>
        obtain ⟨p, S, e, k1, k2, k3⟩ := (show rN K _ F' H' σ' (outF N.length mask z) v d fs from r1)
        refine (show rN K _ F' H' (vs.map some) (Z11 z mask 0) v d fs from ⟨p, S, e, k1, k2, fun ft hf a ha ho => ?_⟩)
        obtain ⟨j, t, d', f', m1, m2⟩ := ho
        refine k3 ft (g2 ft hf) a ha ⟨j, t, d', f', ?_, m2⟩
        unfold outF
        rw [Zb4 _ _ _ (Z36 m1 fun z => nomatch z)]
        exact m1
  obtain ⟨t, h1, h2⟩ := key
  refine ⟨t, h1, ?_⟩
  have hst : L2.start N vs = vs.map some ++ List.replicate (N.length - mask.length) none := by unfold L2.start; rw [hl]
  rw [hst]
  exact h2
end
end DM
namespace DM
open PySem PySem.Spec PyProof.Rows L2 DL
section
variable {K : PySem.W.Frag} {B : Bs} {F H : Hp} {σ : L2.St} {env : Fm}
theorem SR.take (s : SR K B F H σ env) {j : Nat} {t : Option Nat} {d : D} {fs : List Str} (hj : fget env j = .ow t d fs) : ∃ p, σ[j]? = some (some (.ref p)) ∧ SR K B F H σ (fput env j .un) ∧ rN K B F H σ (fput env j .un) (.ref p) d fs ∧ ∀ k, t = some k -> B.par k = some p := by
  obtain ⟨ft, hf⟩ := s.own
  obtain ⟨p, h1, h2, h3, h4⟩ := hf.ow j t d fs hj
  refine ⟨p, h1, s.wk (Wk.un env j), ⟨p, ft j, rfl, h2, h3, fun ft2 hf2 a ha z => ?_⟩, h4⟩
  obtain ⟨i, t', d', f', g1, g2⟩ := z
  have hij : j ≠ i := fun z => by
    subst z
    rcases Z7p env (i := j) .un with z | z <;> (rw [z] at g1; cases g1)
  have g0 := g1
  rw [Zz _ _ hij] at g1
  obtain ⟨p1, k1, k2, _⟩ := hf.ow i t' d' f' g1
  obtain ⟨p2, k3, k4, _⟩ := hf2.ow i t' d' f' g0
  rw [k1] at k3
  cases k3
  rw [Z2w k4 (Ex.refl _) k2] at g2
  exact hf.dis j i t t' d d' fs f' hij hj g1 a ha g2
end
end DM
namespace DM
open PySem PySem.Spec PyProof.Rows L2 DL
end DM
namespace DM
open PySem PySem.Spec PyProof.Rows L2 DL
def lstF (fs : List Str) (gs : List (Str × D)) : Bool := gs.all fun x => !(fs.contains x.1) || (match x.2 with | .lst _ => true | _ => false)
section
variable {X : Cx} {K : PySem.W.Frag} {E : XE} {β ω : Type} {κ : Kt β ω} {env : Fm} {pos : Pos} {rest : List Stmt} {tag : Option Nat} {e : Expr} {fs : List Str}
def R.newF {β ω : Type} (cl : Str -> Bool) (fs : List Str) (f : Str) (d y : D) (m : D -> R β ω) : R β ω := match d with
  | .obj C gs => match y with
    | .lst ds => if cl C && decide (gs.length < 1000) && lstF fs gs && (gs.lookup f).isNone then m (.obj C (putD f (.lst ds) gs)) else .no
    | _ => .no
  | _ => .no
end
section
variable {P : Program} {w : World} {K : PySem.W.Frag} {mg : Str -> Option Value} {base : Heap}
theorem okM {x qual : Str} {st : Stmt} {f : Addr} {fd : FuncData} {N ps : List Str} {k : Nat} {mask : Mask} {nw : Option (List Str)} {mf : List D -> R Unit (D × List D)} (Fn : Fun K x qual st f fd) (S : FnScope N ps (defScope st)) (hn : ps.length = mask.length)
    (hbody : ∀ (cdv : Value) (A : Around) (outer : List Env) (s : Shared) (H : Hp) (E : XK), Room k (A.deeper (envOfC qual (defScope st) s.heap.objs.size f cdv)) -> Quiet (A.deeper (envOfC qual (defScope st) s.heap.objs.size f cdv)) ->
      Z9g (cxOf (L2.CX P w) P w K mg base N qual (defScope st) f cdv A outer s H E) (fun _ => E) -> (∀ σ, PassesAt (L2.CX P w) (cxOf (L2.CX P w) P w K mg base N qual (defScope st) f cdv A outer s H E) σ E) -> PassesOwn (model P w) (A.deeper (envOfC qual (defScope st) s.heap.objs.size f cdv)) (cxOf (L2.CX P w) P w K mg base N qual (defScope st) f cdv A outer s H E).env (cxOf (L2.CX P w) P w K mg base N qual (defScope st) f cdv A outer s H E).xe ->
      ∀ ds, ds.length = mask.length -> AB (cxOf (L2.CX P w) P w K mg base N qual (defScope st) f cdv A outer s H E) K (fun _ => E) (kM N.length mask nw) (Z3h ds mask 0 ++ List.replicate (N.length - mask.length) .un) (defBody st) (mf ds)) :
    FnG P w K mg base (L2.CX P w) (k + 1) f fd ps (spM K mask nw (Lm mf)) :=
  okGX Fn S (fun vs H Q E h => h.1.trans hn.symm) (Zrg (ps := ps) S hn hbody)
end
end DM
namespace DM
open PySem PySem.Spec PyProof.Rows L2 DL
end DM
namespace DM
open PySem PySem.Spec PyProof.Rows PySem.W L2 DL NdefX
end DM
namespace DX
open PySem PySem.W PySem.Calls PyProof.Rows PySem.HandSPX
end DX
namespace DM
open PySem PySem.Spec PyProof.Rows PySem.W L2 DL NdefX
end DM
namespace DM
open PySem PySem.Spec PyProof.Rows L2 DL
end DM
namespace DM
open PySem PySem.Spec PyProof.Rows L2 DL
section
variable {X : Cx} {K : PySem.W.Frag} {E : XE} {β γ : Type} {xF : Fm} {xb : β} {env : Fm} {e a b c : Expr} {es : List Expr} {pos p : Pos} {c1 c2 : (D -> R β γ) -> R β γ}
def truD : D -> Option Bool
  | .bl b => some b
  | .lst ds => some (!ds.isEmpty)
  | .tup ds => some (!ds.isEmpty)
  | _ => none
theorem DrA.empty {F : Hp} : ∀ {vs : List V} {ds : List D}, DrA K F vs ds -> vs.isEmpty = ds.isEmpty
  | _, _, .nil => rfl
  | _, _, .cons _ _ => rfl
theorem Zo4 {F H : Hp} {v : V} {d : D} {q : Bool} (e : Ex F H) (h : Dr K F v d) (hq : truD d = some q) : TruV K v H q := by
  cases h <;> simp only [truD, reduceCtorEq, Option.some.injEq] at hq
  · exact hq.symm
  · rename_i h1 h2
    subst hq
    exact .inl ⟨_, .inl (e.rd h1), by rw [h2.empty]⟩
  · rename_i h1 h2
    subst hq
    exact .inr (.inl ⟨_, e.st h1.sq, by rw [h2.empty]⟩)
theorem Zll {d1 d2 : (D -> R β D) -> R β D} {rest : List Expr} (h : AE X K E xF xb env a d1) (h' : AE X K E xF xb env (.BoolOp .And (b :: rest) pos) d2) :
    AE X K E xF xb env (.BoolOp .And (a :: b :: rest) pos) (fun (k : D -> R β γ) => (d1 fun x => R.lft (truD x) fun q => if q then d2 R.ok else R.ok x).bind k) := by
  have hK := h.1
  subst hK
  exact ⟨rfl, fun B F H σ Q k G s w gx hk hG => ⟨_, pe_andT pe_C pe_C, h.2 B F H σ _ _ (Gd G k) s w (Gd.gx gx) (fun d v F1 H1 h1 e1 eh1 s1 r1 => by
    cases hq : truD d with
    | none => rw [hq] at h1; exact (gx.no h1).elim
    | some q =>
      rw [hq] at h1
      refine ⟨q, Zo4 s1.ex r1 hq, ?_⟩
      cases q with
      | true => exact iteT (h'.2 B F1 H1 σ _ R.ok (Gd G k) s1 w ((Gd.gx gx).mono e1) (fun d v F2 H2 h2 e2 eh2 s2 d2 => hk d v F2 H2 h2 (e1.trans e2) (eh1.trans eh2) s2 d2) h1)
      | false => exact iteF (hk _ _ F1 H1 h1 e1 eh1 s1 r1)) hG⟩⟩
end
inductive Zk where
  | l
  | s (d : D)
def zE : Zk -> Sl
  | .l => .ow none (.lst []) []
  | .s d => .fz d
def zEnv : Fm -> List Nat -> List Zk -> Fm
  | env, i :: is, z :: zs => zEnv (fput env i (zE z)) is zs
  | env, _, _ => env
def zSt : L2.St -> List Nat -> List V -> L2.St
  | σ, i :: is, v :: vs => zSt (σ.set i (some v)) is vs
  | σ, _, _ => σ
section
variable {X : Cx} {K : PySem.W.Frag} {E : XE} {β ω : Type} {κ : Kt β ω} {env : Fm} {pos : Pos} {rest : List Stmt} {e : Expr} {es : List Expr} {zs : List Zk} {d : D}
def AS (X : Cx) (K : PySem.W.Frag) (env : Fm) (e : Expr) (d : D) : Prop := X.K = K ∧ ∀ B F H σ, SR K B F H σ env -> ∃ v, Dr K F v d ∧ ∀ H' (Q : VK), Q v H' -> teC X e σ H' Q
def AZ (X : Cx) (K : PySem.W.Frag) (env : Fm) (es : List Expr) (zs : List Zk) : Prop := X.K = K ∧ ∀ B F H σ F1 H1 σ1 env1 (is : List Nat), is.length = zs.length -> SR K B F H σ env -> Ex F F1 -> SR K B F1 H1 σ1 env1 -> ∀ (Q : List V -> Hp -> Prop),
  (∀ vs F2 H2, vs.length = zs.length -> Ex F1 F2 -> SR K B F2 H2 (zSt σ1 is vs) (zEnv env1 is zs) -> Q vs H2) -> taC X es σ H1 Q
theorem as_int {i j} (hK : X.K = K := by rfl) : AS X K env (.Constant (.int i) j pos) (.int i) := ⟨hK, fun B F H σ s => ⟨_, .int i, fun H' Q q => ⟨_, pe_int, q⟩⟩⟩
theorem Zqh (hK : X.K = K := by rfl) : AZ X K env [] [] := ⟨hK, fun B F H σ F1 H1 σ1 env1 is hl s e1 s1 Q hk => ⟨_, pa_nil, hk [] F1 H1 rfl (Ex.refl _) (by cases is with | nil => exact s1 | cons _ _ => cases hl)⟩⟩
theorem az_s (h : AS X K env e d) (h' : AZ X K env es zs) (hs : starEach (e :: es) X.env = (false, eval e X.env) :: starEach es X.env := by rfl) : AZ X K env (e :: es) (.s d :: zs) :=
  ⟨h.1, fun B F H σ F1 H1 σ1 env1 is hl s e1 s1 Q hk => by
    obtain ⟨v, dv, q⟩ := h.2 B F H σ s
    cases is with
    | nil => cases hl
    | cons i is => exact ⟨_, pa_cons pe_C pa_C hs, q _ _ (h'.2 B F H σ F1 H1 _ _ is (Nat.succ.inj hl) s e1 (s1.setF (i := i) (dv.mono e1)) _ fun vs F2 H2 lv e2 s2 => hk (v :: vs) F2 H2 (congrArg Nat.succ lv) e2 s2)⟩⟩
theorem az_l (h' : AZ X K env es zs) (hs : starEach (.List [] pos :: es) X.env = (false, eval (.List [] pos) X.env) :: starEach es X.env := by rfl) : AZ X K env (.List [] pos :: es) (.l :: zs) :=
  ⟨h'.1, fun B F H σ F1 H1 σ1 env1 is hl s e1 s1 Q hk => by
    cases is with
    | nil => cases hl
    | cons i is => exact ⟨_, pa_cons pe_C pa_C hs, _, pe_lst pa_nil, Nat.zero_le _, fun p hp => by
        obtain ⟨s2, n2⟩ := s1.newN hp (Do.lst .nil)
        exact h'.2 B F H σ F1 _ _ _ is (Nat.succ.inj hl) s e1 (s2.setO (i := i) n2) _ fun vs F2 H2 lv e2 s3 => hk (.ref p :: vs) F2 H2 (congrArg Nat.succ lv) e2 s3⟩⟩
theorem Zkn {x y z : Str} {a b c : Expr} {u v w : Zk} {px py pz pt pt2 : Pos} {kt k2 : Nat} {m : R β ω} (i j l : Nat) (ha : AZ X K env [a, b, c] [u, v, w]) (hr : AB X K E κ (fput (fput (fput env i (zE u)) j (zE v)) l (zE w)) rest m) (hc : X.calm = true) (hN : X.N.Nodup)
    (hlx : X.env.scope.names.lookup x = some .local := by rfl) (hly : X.env.scope.names.lookup y = some .local := by rfl) (hlz : X.env.scope.names.lookup z = some .local := by rfl) (hij : i ≠ j := by decide) (hil : i ≠ l := by decide) (hjl : j ≠ l := by decide) (hi : X.N[i]? = some x := by rfl) (hj : X.N[j]? = some y := by rfl) (hl : X.N[l]? = some z := by rfl)
    (hw : swappedStores [.Tuple [.Name x px, .Name y py, .Name z pz] kt pt] (.Tuple [a, b, c] k2 pt2) X.env = pure (some [x, y, z]) := by rfl) (hs : swapsWithSole [.Tuple [.Name x px, .Name y py, .Name z pz] kt pt] (.Tuple [a, b, c] k2 pt2) pos.line X.env = pure false := by rfl) :
    AB X K E κ env (.Assign [.Tuple [.Name x px, .Name y py, .Name z pz] kt pt] (.Tuple [a, b, c] k2 pt2) pos :: rest) m :=
  ⟨ha.1, fun B F H σ Dn G sr gs hG => ⟨_, pss_cons (ps_par3 hc hN hi hj hl hij hil hjl hlx hly hlz pa_C hw hs) ps_C, ha.2 B F H σ F H σ env [i, j, l] rfl sr (Ex.refl _) sr _ fun vs F2 H2 lv e2 s2 => by
    match vs, lv, s2 with
    | [p, q, r], _, s2 => exact ⟨_, _, _, rfl, hr.2 B F2 H2 _ Dn G s2 (gs.mono e2) hG⟩⟩⟩
end
end DM
namespace DM
open PySem PySem.Spec PyProof.Rows L2 DL
end DM
namespace DM
open PySem PySem.Spec PyProof.Rows L2 DL
end DM
namespace DM
open PySem PySem.Spec PyProof.Rows L2 DL
inductive Cst | non | int (i : Int) | bl (b : Bool) | str (s : Str)
def Cst.v : Cst -> V
  | .non => .non
  | .int i => .int i
  | .bl b => .bl b
  | .str s => .str s
def Cst.d : Cst -> D
  | .non => .non
  | .int i => .int i
  | .bl b => .bl b
  | .str s => .str s
theorem Cst.dr {K : PySem.W.Frag} {F : Hp} : ∀ c : Cst, Dr K F c.v c.d
  | .non => .non
  | .int i => .int i
  | .bl b => .bl b
  | .str s => .str s
theorem DrA.getD {K : PySem.W.Frag} {F : Hp} : ∀ {vs : List V} {ds : List D} (i : Nat), DrA K F vs ds -> Dr K F (vs.getD i .non) (ds.getD i .non)
  | _, _, i, .nil => by simp; exact .non
  | _, _, 0, .cons h _ => h
  | _, _, i + 1, .cons _ h => DrA.getD i h
end DM
namespace DM
open PySem PySem.Spec PyProof.Rows L2 DL
def valD (kds : List (Key × D)) (k : Key) : Option D := (kds.find? fun kd => decide (kd.1 = k)).map (·.2)
def keyD : D -> Option Key
  | .str s => some (.inr s)
  | .int i => some (.inl i)
  | _ => none
def asKD : D -> Option (List (Key × D))
  | .fdc kds => some kds
  | .dct kds => some kds
  | _ => none
theorem u1 {k : Nat} {A : Around} (r : Room k A) : A.units + 1 < cLine := by have := r.un; omega
section
variable {K : PySem.W.Frag} {F H : Hp} {v : V} {d : D}
theorem Dr.key {k : Key} (h : Dr K F v d) (hk : keyD d = some k) : v = kV k := by
  cases h <;> first | (cases hk; rfl) | cases hk
theorem Za2 (k : Key) : ∀ {kvs : List (Key × V)} {kds : List (Key × D)}, kvs.map (·.1) = kds.map (·.1) -> DrA K F (kvs.map (·.2)) (kds.map (·.2)) -> (∀ d, valD kds k = some d -> ∃ v, valV kvs k = some v ∧ Dr K F v d) ∧ (valD kds k = none -> valV kvs k = none)
  | [], [], _, _ => ⟨fun d h => (by cases h), fun _ => rfl⟩
  | (k1, v1) :: kvs, (k2, d2) :: kds, hk, hd => by
    obtain ⟨e1, e2⟩ := List.cons.inj hk
    have e1 : k1 = k2 := e1
    subst e1
    cases hd with
    | cons h t =>
      obtain ⟨a, b⟩ := Za2 k e2 t
      by_cases e : k1 = k
      · refine ⟨fun d hd => ⟨v1, valV_pos e, ?_⟩, fun hn => ?_⟩
        · simp only [valD, List.find?_cons, e, decide_true, Option.map_some, Option.some.injEq] at hd
          subst hd
          exact h
        · simp [valD, List.find?_cons, e] at hn
      · have en : valD ((k1, d2) :: kds) k = valD kds k := by simp [valD, List.find?_cons, e]
        rw [en]
        refine ⟨fun d hd => ?_, fun hn => ?_⟩
        · obtain ⟨v, h1, h2⟩ := a d hd
          exact ⟨v, by rw [valV_neg e]; exact h1, h2⟩
        · rw [valV_neg e]; exact b hn
  | [], _ :: _, hk, _ => by cases hk
  | _ :: _, [], hk, _ => by cases hk
theorem Dh.fdc {kds : List (Key × D)} (e : Ex F H) (h : Dh K F H v (.fdc kds)) : ∃ a o kvs, v = .ref a ∧ F a = some (.frz o (.dK kvs)) ∧ H a = some (.frz o (.dK kvs)) ∧ kvs.map (·.1) = kds.map (·.1) ∧ DrA K F (kvs.map (·.2)) (kds.map (·.2)) := by
  rcases h with h | ⟨_, _, _, _, h⟩
  · cases h with
    | fdc h1 h2 h3 => exact ⟨_, _, _, rfl, h1, e _ _ h1, h2, h3⟩
  · cases h
theorem Dh.asK {kds : List (Key × D)} (e : Ex F H) (h : Dh K F H v d) (hd : asKD d = some kds) : ∃ a kvs, v = .ref a ∧ Rd H a (.dK kvs) ∧ kvs.map (·.1) = kds.map (·.1) ∧ DrA K F (kvs.map (·.2)) (kds.map (·.2)) := by
  cases d <;> first | cases hd | skip
  · obtain ⟨a, kvs, rfl, h1, h2, h3⟩ := h.dct e
    exact ⟨a, kvs, rfl, .inl h1, h2, h3⟩
  · obtain ⟨a, o, kvs, rfl, _, h1, h2, h3⟩ := h.fdc e
    exact ⟨a, kvs, rfl, .inr ⟨o, h1⟩, h2, h3⟩
end
def dixG (x y : D) : Option D := (asKD x).bind fun kds => (keyD y).bind fun k => valD kds k
section
variable {X : Cx} {K : PySem.W.Frag} {E : XE} {β γ : Type} {xF : Fm} {xb : β} {env : Fm} {e i o tg : Expr} {p pos apos cpos : Pos} {c1 c2 : (D -> R β γ) -> R β γ}
theorem Z1v (ho : AL X K E xF xb env o c1) (hi : AE X K E xF xb env i c2) (hu : X.A.units + 1 < cLine) (hs : NoSl i := by exact fun _ _ => rfl) : AE X K E xF xb env (.Subscript o i pos) (fun (k : D -> R β γ) => c1 fun x => c2 fun y => R.lft (dixG x y) k) :=
  ⟨ho.1, fun B F H σ Q k G s w gx hk hG => ⟨_, pe_dget hu pe_C pe_C hs, ho.2 B F H σ _ _ G s w gx (fun x v F1 H1 h1 e1 eh1 s1 d1 => hi.2 B F1 H1 σ _ _ G s1 w (gx.mono e1) (fun y u F2 H2 h2 e2 eh2 s2 d2 => by
    cases hc : dixG x y with
    | none => rw [hc] at h2; exact (gx.no h2).elim
    | some d =>
      rw [hc] at h2
      unfold dixG at hc
      obtain ⟨kds, q1, hc⟩ := Option.bind_eq_some_iff.mp hc
      obtain ⟨ky, q2, hc⟩ := Option.bind_eq_some_iff.mp hc
      obtain ⟨a, kvs, rfl, g1, g2, g3⟩ := (d1.mono e2 eh2).asK s2.ex q1
      obtain ⟨v', g4, g5⟩ := (Za2 ky g2 g3).1 d hc
      exact ⟨a, v', rfl, .inl ⟨kvs, ky, g1, d2.key q2, g4.symm⟩, hk d v' F2 H2 h2 (e1.trans e2) (eh1.trans eh2) s2 g5⟩) h1) hG⟩⟩
end
end DM
namespace DS
open PySem PySem.Spec PyProof.Rows L2
def keyS (e : Int × Value) : Str := match e.2 with | .str k _ => k | _ => ⟨#[]⟩
def Zrw (w : World) (e : Int × Value) : Prop := ∃ k tk, e.2 = Value.str k tk ∧ e.1 = hashStr w k
def SetS (w : World) (h : Heap) (a : Addr) (l : List Str) : Prop :=
  ∃ o es ep t, h.get? a = some o ∧ o.ExactSet ∧ o.data = .set es ep t ∧ (∀ e ∈ es.toList, Zrw w e) ∧ (es.toList.map keyS).Nodup ∧ (∀ k, k ∈ l ↔ k ∈ es.toList.map keyS) ∧
    es.size ≤ l.length ∧ es.size < scanBound ∧ t.fits es.size = true ∧ Ris t.place.toList ∧ (w.params.followText "set-order" = true ∨ t.led = true)
section
variable {P : Program} {w : World} {h h' : Heap} {a : Addr} {l : List Str}
theorem SetS.at (R : SetS w h a l) (k : ∀ o, h.get? a = some o -> h'.get? a = some o) : SetS w h' a l := by
  obtain ⟨o, es, ep, t, ho, r⟩ := R
  exact ⟨o, es, ep, t, k o ho, r⟩
end
section
variable {P : Program} {w : World} {A : Around} {E : Value -> Shared -> Prop} {s : Shared} {a : Addr} {l : List Str}
abbrev objS (w : World) : Obj := { cls := .type "set", dict := none, data := .set #[] 0 (.fresh 0 0 (!w.params.followText "set-order")) }
end
def leS (a b : Str) : Bool := !ltCps b.cps.toList a.cps.toList
theorem Zas {a b : Str} : leS a b = true ↔ ¬ b.cps.toList < a.cps.toList := by
  unfold leS
  rw [ltCps_eq]
  simp
theorem Zjs {a b : Str} (h1 : leS a b = true) (h2 : leS b a = true) : a = b := by
  rw [Zas] at h1 h2
  have e : a.cps.toList = b.cps.toList := List.le_antisymm (List.not_lt.mp h1) (List.not_lt.mp h2)
  obtain ⟨⟨x⟩⟩ := a
  obtain ⟨⟨y⟩⟩ := b
  have e : x = y := e
  rw [e]
theorem Zcd {a b c : Str} (h1 : leS a b = true) (h2 : leS b c = true) : leS a c = true := by
  rw [Zas] at h1 h2 ⊢
  exact List.not_lt.mpr (List.le_trans (List.not_lt.mp h1) (List.not_lt.mp h2))
theorem Zhn (a b : Str) : leS a b = true ∨ leS b a = true := by
  rw [Zas, Zas]
  by_cases h : b.cps.toList < a.cps.toList
  · exact .inr (List.not_lt.mpr (List.le_of_lt h))
  · exact .inl h
def insS (x : Str) : List Str -> List Str
  | [] => [x]
  | y :: r => if leS x y then x :: y :: r else y :: insS x r
def Zfl : List Str -> List Str
  | [] => []
  | x :: r => insS x (Zfl r)
theorem Zax (x : Str) : ∀ l, (insS x l).Perm (x :: l)
  | [] => .refl _
  | y :: r => by
    unfold insS
    split
    · exact .refl _
    · exact ((Zax x r).cons y).trans (.swap x y r)
theorem Zbm : ∀ l, (Zfl l).Perm l
  | [] => .refl _
  | x :: r => (Zax x _).trans ((Zbm r).cons x)
abbrev PwS (l : List Str) : Prop := l.Pairwise fun a b => leS a b = true
theorem Zla {x : Str} : ∀ {l}, PwS l -> PwS (insS x l)
  | [], _ => List.pairwise_singleton _ _
  | y :: r, h => by
    obtain ⟨h1, h2⟩ := List.pairwise_cons.mp h
    unfold insS
    split
    · rename_i hx
      exact List.pairwise_cons.mpr ⟨fun z hz => by
        rcases List.mem_cons.mp hz with q | q
        · rw [q]; exact hx
        · exact Zcd hx (h1 z q), h⟩
    · rename_i hx
      have hy : leS y x = true := (Zhn x y).resolve_left hx
      exact List.pairwise_cons.mpr ⟨fun z hz => by
        rcases List.mem_cons.mp ((Zax x r).mem_iff.mp hz) with q | q
        · rw [q]; exact hy
        · exact h1 z q, Zla h2⟩
theorem Zgp : ∀ l, PwS (Zfl l)
  | [] => .nil
  | x :: r => Zla (Zgp r)
theorem Zh2 : ∀ {l m : List Str}, PwS l -> PwS m -> l.Perm m -> l = m
  | [], m, _, _, p => (List.Perm.nil_eq p)
  | x :: l, [], _, _, p => (List.Perm.eq_nil p)
  | x :: l, y :: m, h1, h2, p => by
    obtain ⟨a1, a2⟩ := List.pairwise_cons.mp h1
    obtain ⟨b1, b2⟩ := List.pairwise_cons.mp h2
    have e : x = y := by
      rcases List.mem_cons.mp (p.mem_iff.mp List.mem_cons_self) with q | q
      · exact q
      · rcases List.mem_cons.mp (p.mem_iff.mpr List.mem_cons_self) with r | r
        · exact r.symm
        · exact Zjs (a1 y r) (b1 x q)
    subst e
    rw [Zh2 a2 b2 ((List.perm_cons x).mp p)]
theorem Zbv : ∀ {l : List Str} {p : Str}, risingS p l = true -> PwS (p :: l)
  | [], p, _ => List.pairwise_singleton _ _
  | x :: r, p, h => by
    have h : (!ltCps x.cps.toList p.cps.toList && risingS x r) = true := h
    rw [Bool.and_eq_true] at h
    have q := Zbv h.2
    exact List.pairwise_cons.mpr ⟨fun z hz => by
      rcases List.mem_cons.mp hz with e | e
      · rw [e]; exact h.1
      · exact Zcd h.1 ((List.pairwise_cons.mp q).1 z e), q⟩
theorem Zgo : ∀ {l : List Str}, sortedS l = true -> PwS l
  | [], _ => .nil
  | _ :: _, h => Zbv h
theorem Zbl {l ys : List Str} (p : ys.Perm l) (h : sortedS ys = true) : ys = Zfl l := Zh2 (Zgo h) (Zgp l) (p.trans (Zbm l).symm)
end DS
namespace DM
open PySem PySem.Spec PyProof.Rows L2 DL DS
def Zgm : List D -> Option (List Str)
  | [] => some []
  | .str x :: r => (Zgm r).map (x :: ·)
  | _ :: _ => none
theorem Zea : ∀ {ds : List D} {ss : List Str}, Zgm ds = some ss -> ds = ss.map D.str
  | [], ss, h => by cases h; rfl
  | d :: r, ss, h => by
    cases d <;> first | (cases h; done) | skip
    rename_i x
    unfold Zgm at h
    cases e : Zgm r with
    | none => rw [e] at h; cases h
    | some ss' =>
      rw [e] at h
      cases h
      rw [Zea e]
      rfl
theorem Z77 {K : PySem.W.Frag} {F : Hp} : ∀ ss : List Str, DrA K F (ss.map V.str) (ss.map D.str)
  | [] => .nil
  | x :: r => .cons (.str x) (Z77 r)
def or2 (g1 g2 : List D -> Option D) : List D -> Option D := fun ds => match g1 ds with
  | some d => some d
  | none => g2 ds
section
variable {X : Cx} {K : PySem.W.Frag} {f : Value} {r1 r2 : List V -> Hp -> VK -> Prop} {g1 g2 : List D -> Option D}
theorem Zqd (h1 : CallR X f r1) (h2 : CallR X f r2) : CallR X f (fun xs H Q => r1 xs H Q ∨ r2 xs H Q) := fun pins s σ H xs us Q I r h => h.elim (h1 pins s σ H xs us Q I r) (h2 pins s σ H xs us Q I r)
theorem Zqe (h1 : Z9h K r1 g1) (h2 : Z9h K r2 g2) : Z9h K (fun xs H Q => r1 xs H Q ∨ r2 xs H Q) (or2 g1 g2) := fun B F H σ env xs as c Q s hx hg q => by
  unfold or2 at hg
  cases e : g1 as with
  | some d => rw [e] at hg; cases hg; exact .inl (h1 B F H σ env xs as _ Q s hx e q)
  | none => rw [e] at hg; exact .inr (h2 B F H σ env xs as _ Q s hx hg q)
def Zec : List D -> Option D
  | [.lst ds] => (Zgm ds).bind fun ss => if ss.length < 64 then some (.lst ((Zfl ss).map .str)) else none
  | _ => none
theorem Z9a {F : Hp} : ∀ {ss : List Str} {vs : List V}, DrA K F vs (ss.map D.str) -> vs = ss.map V.str
  | [], _, .nil => rfl
  | x :: r, _, .cons h t => by
    cases h
    rw [Z9a t]
    rfl
theorem Zg4 : Z9h K (rSortedS K) Zec := by
  intro B F H σ env xs as c Q s hx hg q
  unfold Zec at hg
  split at hg
  · rename_i ds
    obtain ⟨ss, q1, hg⟩ := Option.bind_eq_some_iff.mp hg
    by_cases h64 : ss.length < 64
    · rw [if_pos h64] at hg
      cases hg
      rw [Zea q1] at hx
      obtain ⟨v, rfl, hv⟩ := hx.one
      obtain ⟨a, ys, rfl, h1, h2⟩ := hv.lst s.ex
      rw [Z9a h2] at h1
      refine ⟨a, ss, rfl, h1, h64, fun ms p hp hs hl => ?_⟩
      rw [Zbl hp hs]
      exact q _ F _ (Ex.refl F) (Ex.new hl) (s.newN hl (Do.lst (Z77 _))).1 (s.newN hl (Do.lst (Z77 _))).2
    · rw [if_neg h64] at hg; cases hg
  · cases hg
def Zgj : List (Key × D) -> Option (List Str)
  | [] => some []
  | (.inr x, _) :: r => (Zgj r).map (x :: ·)
  | (.inl _, _) :: _ => none
theorem Zbh : ∀ {kds : List (Key × D)} {ss : List Str}, Zgj kds = some ss -> kds.map (·.1) = ss.map Sum.inr
  | [], ss, h => by cases h; rfl
  | (.inl _, _) :: _, ss, h => by cases h
  | (.inr x, _) :: r, ss, h => by
    obtain ⟨ss', e, rfl⟩ := Option.map_eq_some_iff.mp h
    rw [List.map_cons, Zbh e]
    rfl
def Zed : List D -> Option D
  | [x] => (asKD x).bind fun kds => (Zgj kds).bind fun ss => if ss.length < 64 then some (.lst ((Zfl ss).map .str)) else none
  | _ => none
theorem Zdy : Z9h K (fun xs H Q => ∃ (a : Addr) (kvs : List (Key × V)) (ks : List Str), xs = [.ref a] ∧ Rd H a (.dK kvs) ∧ kvs.map (·.1) = ks.map Sum.inr ∧ ks.length < 64 ∧
    ∀ ys p, ys.Perm ks -> sortedS ys = true -> H p = none -> Q (.ref p) (upd H p (.lst (ys.map V.str)))) Zed := by
  intro B F H σ env xs as c Q s hx hg q
  unfold Zed at hg
  split at hg
  · rename_i d
    obtain ⟨kds, q1, hg⟩ := Option.bind_eq_some_iff.mp hg
    obtain ⟨ss, q2, hg⟩ := Option.bind_eq_some_iff.mp hg
    by_cases h64 : ss.length < 64
    · rw [if_pos h64] at hg
      cases hg
      obtain ⟨v, rfl, hv⟩ := hx.one
      obtain ⟨a, kvs, rfl, g1, g2, g3⟩ := hv.asK s.ex q1
      refine ⟨a, kvs, ss, rfl, g1, g2.trans (Zbh q2), h64, fun ms p hp hs hl => ?_⟩
      rw [Zbl hp hs]
      exact q _ F _ (Ex.refl F) (Ex.new hl) (s.newN hl (Do.lst (Z77 _))).1 (s.newN hl (Do.lst (Z77 _))).2
    · rw [if_neg h64] at hg; cases hg
  · cases hg
end
end DM
namespace DM
open PySem PySem.Spec PyProof.Rows L2 DL
def Z9j (kds : List (Key × D)) (k : Key) (d : D) : List (Key × D) := if (kds.any fun kd => decide (kd.1 = k)) = true then kds.map (fun kd => if kd.1 = k then (kd.1, d) else kd) else kds ++ [(k, d)]
def Z4v (kds more : List (Key × D)) : List (Key × D) := more.foldl (fun acc kd => Z9j acc kd.1 kd.2) kds
def KD (K : PySem.W.Frag) (F : Hp) (kvs : List (Key × V)) (kds : List (Key × D)) : Prop := kvs.map (·.1) = kds.map (·.1) ∧ DrA K F (kvs.map (·.2)) (kds.map (·.2))
section
variable {K : PySem.W.Frag} {F F' : Hp}
theorem KD.nil : KD K F [] [] := ⟨rfl, .nil⟩
theorem KD.mono (e : Ex F F') {kvs : List (Key × V)} {kds : List (Key × D)} (h : KD K F kvs kds) : KD K F' kvs kds := ⟨h.1, h.2.mono e⟩
theorem KD.cons {k : Key} {v : V} {d : D} {kvs : List (Key × V)} {kds : List (Key × D)} (hd : Dr K F v d) (h : KD K F kvs kds) : KD K F ((k, v) :: kvs) ((k, d) :: kds) := ⟨by rw [List.map_cons, List.map_cons, h.1], .cons hd h.2⟩
theorem KD.uncons {p : Key × V} {q : Key × D} {kvs : List (Key × V)} {kds : List (Key × D)} (h : KD K F (p :: kvs) (q :: kds)) : p.1 = q.1 ∧ Dr K F p.2 q.2 ∧ KD K F kvs kds := by
  obtain ⟨h1, h2⟩ := h
  obtain ⟨e1, e2⟩ := List.cons.inj h1
  cases h2 with
  | cons a b => exact ⟨e1, a, e2, b⟩
theorem KD.length {kvs : List (Key × V)} {kds : List (Key × D)} (h : KD K F kvs kds) : kvs.length = kds.length := by
  have := congrArg List.length h.1
  rwa [List.length_map, List.length_map] at this
theorem KD.any (k : Key) {kvs : List (Key × V)} {kds : List (Key × D)} (h : KD K F kvs kds) : (kvs.any fun kv => decide (kv.1 = k)) = kds.any fun kd => decide (kd.1 = k) := by
  have e1 : (kvs.any fun kv => decide (kv.1 = k)) = (kvs.map (·.1)).any fun x => decide (x = k) := by rw [List.any_map]; rfl
  have e2 : (kds.any fun kd => decide (kd.1 = k)) = (kds.map (·.1)).any fun x => decide (x = k) := by rw [List.any_map]; rfl
  rw [e1, e2, h.1]
theorem KD.over (k : Key) {v : V} {d : D} (hd : Dr K F v d) : ∀ {kvs : List (Key × V)} {kds : List (Key × D)}, KD K F kvs kds -> KD K F (kvs.map fun kv => if kv.1 = k then (kv.1, v) else kv) (kds.map fun kd => if kd.1 = k then (kd.1, d) else kd)
  | [], [], _ => .nil
  | p :: kvs, q :: kds, h => by
    obtain ⟨a, b, c⟩ := h.uncons
    obtain ⟨k1, v1⟩ := p
    obtain ⟨k2, d2⟩ := q
    have a : k1 = k2 := a
    subst a
    rw [List.map_cons, List.map_cons]
    by_cases hk : k1 = k
    · simp only [if_pos hk]
      exact KD.cons hd (KD.over k hd c)
    · simp only [if_neg hk]
      exact KD.cons b (KD.over k hd c)
  | [], _ :: _, h => by have z := h.length; cases z
  | _ :: _, [], h => by have z := h.length; cases z
theorem KD.put (k : Key) {v : V} {d : D} {kvs : List (Key × V)} {kds : List (Key × D)} (h : KD K F kvs kds) (hd : Dr K F v d) : KD K F (putK kvs k v) (Z9j kds k d) := by
  unfold putK Z9j
  rw [h.any k]
  split
  · exact h.over k hd
  · exact ⟨by rw [List.map_append, List.map_append, h.1]; rfl, by rw [List.map_append, List.map_append]; exact h.2.append (.one hd)⟩
theorem KD.merge : ∀ {more : List (Key × V)} {mds : List (Key × D)} {kvs : List (Key × V)} {kds : List (Key × D)}, KD K F more mds -> KD K F kvs kds -> KD K F (mergeK kvs more) (Z4v kds mds)
  | [], [], _, _, _, h => h
  | p :: more, q :: mds, kvs, kds, h, h2 => by
    obtain ⟨a, b, c⟩ := h.uncons
    have e := h2.put p.1 b
    rw [show Z9j kds p.1 q.2 = Z9j kds q.1 q.2 by rw [a]] at e
    show KD K F (mergeK (putK kvs p.1 p.2) more) (Z4v (Z9j kds q.1 q.2) mds)
    exact KD.merge c e
  | [], _ :: _, _, _, h, _ => by have z := h.length; cases z
  | _ :: _, [], _, _, h, _ => by have z := h.length; cases z
end
def tLk (t : TE) : TE := fun σ H Q => t σ H fun v H1 => Q v H1 ∨ ∃ p kvs, v = .ref p ∧ H1 p = some (.dK kvs) ∧ ∀ od, Q v (upd H1 p (.frz od (.dK kvs)))
theorem Zrd {X : Cx} {e : Expr} {t : TE} (h : PE X e t) : PE X e (tLk t) := ⟨fun pins s σ H Q I q => thn (h.run pins s σ H _ I q) fun u s1 ⟨v, H1, I1, r, q1⟩ => by
  rcases q1 with q1 | ⟨p, kvs, rfl, hp, q1⟩
  · exact ⟨v, H1, I1, r, q1⟩
  · obtain ⟨od, I2⟩ := I1.lock hp True.intro
    exact ⟨.ref p, _, I2, r, q1 od⟩⟩
section
variable (X : Cx) (K : PySem.W.Frag) (E : XE) {β γ : Type} (xF : Fm) (xb : β) (env : Fm)
def ANn (e : Expr) (c : (List (Key × D) -> R β γ) -> R β γ) : Prop := X.K = K ∧ ∀ B F H σ Q k (G : R β γ -> Prop), SR K B F H σ env -> Wk env xF -> Gx K B E F σ xF xb G ->
  (∀ kds p kvs F' H', G (k kds) -> Ex F F' -> Ex H H' -> SR K B F' H' σ env -> KD K F' kvs kds -> H p = none -> H' p = some (.dK kvs) -> F' p = none -> (B.H0 p = none ∨ B.ps p) -> (∀ ft, Hs K B F' H' σ env ft -> ¬ owned env ft p) -> Q (.ref p) H') -> G (c k) -> teC X e σ H Q
def trsC : List (Option Expr) -> List Expr -> List (TE × TE)
  | some k :: ks, v :: vs => (teC X k, teC X v) :: trsC ks vs
  | _, _ => []
def APs (keys : List (Option Expr)) (vals : List Expr) (c : (List (Key × D) -> R β γ) -> R β γ) : Prop := X.K = K ∧ ∀ B F H σ (Q : List (V × V) -> Hp -> Prop) k (G : R β γ -> Prop), SR K B F H σ env -> Wk env xF -> Gx K B E F σ xF xb G ->
  (∀ kds kvs F' H', G (k kds) -> Ex F F' -> Ex H H' -> SR K B F' H' σ env -> KD K F' kvs kds -> Q (kvs.map fun kv => (kV kv.1, kv.2)) H') -> G (c k) -> tPairs (trsC X keys vals) σ H Q
end
section
variable {X : Cx} {K : PySem.W.Frag} {E : XE} {β γ : Type} {xF : Fm} {xb : β} {env : Fm} {e : Expr} {pos : Pos}
theorem ANn.an {c : (List (Key × D) -> R β γ) -> R β γ} (h : ANn X K E xF xb env e c) : AN X K E xF xb env [] e (fun (k : D -> R β γ) => c fun kds => k (.dct kds)) :=
  ⟨h.1, fun B F H σ Q k G s w gx hk hG => h.2 B F H σ Q _ G s w gx (fun kds p kvs F' H' h1 e1 eh1 s1 hkd _ hp hF hb hn => hk _ _ F' H' h1 e1 eh1 s1 ⟨p, [p], rfl, .ce hp (.dct hkd.1 hkd.2), fun a ha => by rw [List.mem_singleton.mp ha]; exact ⟨hF, hb⟩, fun ft hf a ha => by rw [List.mem_singleton.mp ha]; exact hn ft hf⟩) hG⟩
theorem ANn.lock {c : (List (Key × D) -> R β γ) -> R β γ} (h : ANn X K E xF xb env e c) : AE X K E xF xb env e (fun (k : D -> R β γ) => c fun kds => k (.fdc kds)) :=
  ⟨h.1, fun B F H σ Q k G s w gx hk hG => by
    obtain ⟨t, pt, q⟩ := h.2 B F H σ (fun v H1 => Q v H1 ∨ ∃ p kvs, v = .ref p ∧ H1 p = some (.dK kvs) ∧ ∀ od, Q v (L2.upd H1 p (.frz od (.dK kvs)))) _ G s w gx (fun kds p kvs F' H' h1 e1 eh1 s1 hkd hnew hp hF hb hn => .inr ⟨p, kvs, rfl, hp, fun od => by
      have s2 := s1.updOff (o := .frz od (.dK kvs)) hF hb hn
      obtain ⟨ft, hf⟩ := s2.own
      have hn2 : ¬ owned env ft p := fun z => by
        obtain ⟨ft1, hf1⟩ := s1.own
        have n1 : Nob K F' H' σ env p := Nob.of s1 hn
        exact (n1.upd s1).to ft hf z
      have s3 := s2.lay (S := [p]) (fun a ha => by rw [List.mem_singleton.mp ha]; exact ⟨hF, hb⟩) ⟨ft, hf, fun a ha => by rw [List.mem_singleton.mp ha]; exact hn2⟩
      have hx : Ex F' (DM.lay F' (L2.upd H' p (.frz od (.dK kvs))) [p]) := Zce fun a ha => by rw [List.mem_singleton.mp ha]; exact hF
      have hx2 : Ex H (L2.upd H' p (.frz od (.dK kvs))) := fun a o ha => by rw [upd_ne (ne_of_none ha hnew)]; exact eh1 a o ha
      exact hk _ _ _ _ h1 (e1.trans hx) hx2 s3 (.fdc (o := od) (by rw [Zet List.mem_cons_self, upd_same]) hkd.1 (hkd.2.mono hx))⟩) hG
    exact ⟨_, Zrd pt, q⟩⟩
theorem Zkc (hK : X.K = K := by rfl) : ANn X K E xF xb env (.Dict [] [] pos) (fun (k : List (Key × D) -> R β γ) => k []) :=
  ⟨hK, fun B F H σ Q k G s w gx hk hG => ⟨_, pe_dnewK, fun p hp => by
    have hF := s.ex.none hp
    refine hk [] p [] F _ hG (Ex.refl F) (Ex.new hp) (s.growH hp) .nil hp upd_same hF (s.new_b hp) fun ft hf z => ?_
    have n0 : Nob K F H σ env p := fun i t d fs q S e1 e2 o ha => by
      obtain ⟨u, hu⟩ := o.some p ha
      rw [hp] at hu; cases hu
    exact (n0.upd s).to ft hf z⟩⟩
theorem Z9e (hK : X.K = K := by rfl) : APs X K E xF xb env [] [] (fun (k : List (Key × D) -> R β γ) => k []) := ⟨hK, fun B F H σ Q k G s w gx hk hG => hk [] [] F H hG (Ex.refl F) (Ex.refl H) s .nil⟩
def R.ky (d : D) (k : Key -> R β γ) : R β γ := match keyD d with
  | some x => k x
  | none => .no
theorem Z3g {k0 v0 : Expr} {ks : List (Option Expr)} {vs : List Expr} {ck cv : (D -> R β γ) -> R β γ} {c : (List (Key × D) -> R β γ) -> R β γ} (hk0 : AE X K E xF xb env k0 ck) (hv0 : AE X K E xF xb env v0 cv) (hr : APs X K E xF xb env ks vs c) :
    APs X K E xF xb env (some k0 :: ks) (v0 :: vs) (fun (k : List (Key × D) -> R β γ) => ck fun x => cv fun y => R.ky x fun kx => c fun r => k ((kx, y) :: r)) :=
  ⟨hr.1, fun B F H σ Q k G s w gx hk hG => hk0.2 B F H σ _ _ G s w gx (fun x u F1 H1 h1 e1 eh1 s1 d1 => hv0.2 B F1 H1 σ _ _ G s1 w (gx.mono e1) (fun y v F2 H2 h2 e2 eh2 s2 d2 => by
    unfold R.ky at h2
    cases hx : keyD x with
    | none => rw [hx] at h2; exact (gx.no h2).elim
    | some kx =>
      rw [hx] at h2
      refine hr.2 B F2 H2 σ _ _ G s2 w (gx.mono (e1.trans e2)) (fun kds kvs F3 H3 h3 e3 eh3 s3 d3 => ?_) h2
      have z := hk _ ((kx, v) :: kvs) F3 H3 h3 (e1.trans (e2.trans e3)) (eh1.trans (eh2.trans eh3)) s3 (KD.cons (d2.mono e3) d3)
      rw [d1.key hx]
      exact z) h1) hG⟩
theorem Zoz {X : Cx} {pos : Pos} : ∀ {ks : List (Option Expr)} {vs : List Expr}, ks.all (·.isSome) = true -> ks.length = vs.length -> PPs X pos ks vs (trsC X ks vs)
  | [], [], _, _ => pps_nil
  | some k :: ks, v :: vs, h, hl => pps_cons pe_C pe_C (Zoz (by simpa using h) (by simpa using hl))
  | none :: ks, v :: vs, h, _ => by simp at h
  | [], _ :: _, _, hl => by cases hl
  | _ :: _, [], _, hl => by cases hl
theorem Z7a {ks : List (Option Expr)} {vs : List Expr} {c : (List (Key × D) -> R β γ) -> R β γ} (h : APs X K E xF xb env ks vs c) (hall : ks.all (·.isSome) = true) (hl : ks.length = vs.length) (h0 : ks ≠ []) (h15 : ks.length ≤ 15) :
    ANn X K E xF xb env (.Dict ks vs pos) (fun (k : List (Key × D) -> R β γ) => c fun kds => if kds.length ≤ 15 then k (Z4v [] kds) else .no) :=
  ⟨h.1, fun B F H σ Q k G s w gx hk hG => ⟨_, pe_disp (Zoz hall hl) hall hl h0 h15, fun p hp => by
    have hF := s.ex.none hp
    have hb := s.new_b hp
    have s1 : SR K B F (L2.upd H p (.dK [])) σ env := s.growH hp
    have n0 : Nob K F H σ env p := fun i t d fs q S e1 e2 o ha => by
      obtain ⟨u, hu⟩ := o.some p ha
      rw [hp] at hu; cases hu
    have n1 := n0.upd (o := .dK []) s
    obtain ⟨ft, hf⟩ := s1.own
    refine h.2 (B.at F (L2.upd H p (.dK [])) env ft) F (L2.upd H p (.dK [])) σ _ _ G (s1.rebase hf) w ⟨gx.no, fun x hx cc dd F' H' e' s' => gx.ex x hx cc dd F' H' e' (s1.unbase hf (fun _ _ z => z) s')⟩ (fun kds kvs F2 H2 h2 e2 eh2 s2 d2 => ?_) hG
    obtain ⟨o1, o2, o3⟩ := s2.off (p := p) (o := .dK []) upd_same hF (n1.to ft hf)
    have o3 := Nob.of s2 o3
    have s3 := s1.unbase hf (fun _ _ z => z) s2
    by_cases h15 : kds.length ≤ 15
    · rw [if_pos h15] at h2
      refine ⟨o1, kvs, rfl, by rw [d2.length]; exact h15, ?_⟩
      refine hk _ p (mergeK [] kvs) F2 _ h2 e2 (fun a o ha => ?_) (s3.updOff o2 hb o3.to) (d2.merge .nil) hp upd_same o2 hb fun ft' hf' => (o3.upd s3).to ft' hf'
      rw [upd_ne (ne_of_none ha hp)]
      exact eh2 a o (by rw [upd_ne (ne_of_none ha hp)]; exact ha)
    · rw [if_neg h15] at h2
      exact (gx.no h2).elim⟩⟩
end
end DM
namespace DM
open PySem PySem.Spec PyProof.Rows L2 DL
end DM
namespace DM
open PySem PySem.Spec PyProof.Rows L2 DL
def R.putDct {β ω : Type} (kds : List (Key × D)) (j y : D) (m : D -> R β ω) : R β ω := match keyD j with
  | some k => if kds.length < 1000 then m (.dct (Z9j kds k y)) else .no
  | none => .no
def R.asDct {β γ : Type} (d : D) (k : List (Key × D) -> R β γ) : R β γ := match d with
  | .dct kds => k kds
  | _ => .no
section
variable {X : Cx} {K : PySem.W.Frag} {E : XE} {β ω : Type} {κ : Kt β ω} {env : Fm} {rest : List Stmt} {tag : Option Nat} {pos : Pos}
theorem Z7v (i : Nat) {x : Str} {d : D} (hi : fget env i = .ow tag d []) {k e : Expr} {c ck : (D -> R β ω) -> R β ω} {m : D -> R β ω} {p1 p2 : Pos} (xb : β) (hk : AE X K E (κ.fx xb) xb env k ck) (he : AE X K E (κ.fx xb) xb env e c) (hx : Wk env (κ.fx xb)) (hr : ∀ d, AB X K E κ (fput env i (.ow tag d [])) rest (m d)) (hu : X.A.units + 1 < cLine)
    (hN : X.N[i]? = some x := by rfl) (hv : Vis X.env.scope x := by first | exact Or.inl rfl | exact Or.inr (Or.inl rfl) | exact Or.inr (Or.inr rfl)) (hd : (x == ("__debug__" : Str)) = false := by decide) (hcd : (x == ("__classdict__" : Str)) = false := by decide)
    (hs : swapsWith e (some (.Subscript (.Name x p1) k p2)) pos.line X.env = pure false := by rfl) :
    AB X K E κ env (.Assign [.Subscript (.Name x p1) k p2] e pos :: rest) (R.asDct d fun kds => c fun y => ck fun j => R.putDct kds j y m) := by
  refine ⟨he.1, fun B F H σ Dn G sr gs hG => ⟨_, pss_cons (ps_dput hu (pe_var hN hv hd hcd) pe_C pe_C hs) ps_C, ?_⟩⟩
  cases d <;> first | exact (gs.no hG).elim | skip
  rename_i kds
  refine he.2 B F H σ _ _ G sr hx (gs.gx xb) (fun y v F1 H1 g1 e1 eh1 s1 d1 => ?_) hG
  obtain ⟨p, o, q1, q2, q3⟩ := s1.cell0 hi
  refine ⟨.ref p, q1, hk.2 B F1 H1 σ _ _ G s1 hx ((gs.mono e1).gx xb) (fun j u F2 H2 g2 e2 eh2 s2 d2 => ?_) g1⟩
  unfold R.putDct at g2
  cases hj : keyD j with
  | none => rw [hj] at g2; exact (gs.no g2).elim
  | some kk =>
    rw [hj] at g2
    simp only [] at g2
    by_cases hz : kds.length < 1000
    · rw [if_pos hz] at g2
      obtain ⟨p', o', k1, k2, k3⟩ := s2.cell0 hi
      rw [q1] at k1
      cases k1
      cases k3 with
      | dct hA hB =>
        rename_i kvs
        have hKD : KD K F2 kvs kds := ⟨hA, hB⟩
        have hKD2 := hKD.put kk (d1.mono e2)
        obtain ⟨p4, o4, k4, k5, k6, k7⟩ := s2.cell (d' := .dct (Z9j kds kk y)) hi (.dct hKD2.1 hKD2.2)
        rw [q1] at k4
        cases k4
        have hl : kvs.length < sizeLine := by rw [hKD.length, sizeLine_eq]; omega
        exact ⟨p, _, rfl, .inl ⟨kvs, kk, k2, d2.key hj, hl, rfl⟩, (hr _).2 B F2 _ σ Dn G k7 (gs.mono (e1.trans e2)) g2⟩
    · rw [if_neg hz] at g2
      exact (gs.no g2).elim
end
end DM
namespace DM
open PySem PySem.Spec PyProof.Rows L2 DL
structure Clz where
  x : Str
  n : Str
  c : Value
  i : Nat
  np : Pos
  pos : Pos
  b₀ : Stmt
  suite : List Stmt
  ts : Addr -> Value -> Option Addr -> TS
def Clz.h (q : Clz) : ExceptHandler := .ExceptHandler (some (.Name q.x q.np)) (some q.n) (q.b₀ :: q.suite) q.pos
structure Clz.Ok (X : Cx) (q : Clz) : Prop where
  hi : X.N[q.i]? = some q.n
  hln : X.env.kindOf q.n = some .local
  hc : Names X q.x q.c
  su : ∀ (a : Addr) (oe : Obj) (cls : Value) (d : Option Addr) (pn : List (Addr × Obj)), Zc cls d oe -> (∃ vs, oe.data = .fields vs) -> PSs (X.suite a ((a, oe) :: pn)) (q.b₀ :: q.suite) (q.ts a cls d)
def endsN (i : Nat) (D : Ends) : Ends := { nx := fun σ' H' => D.nx (σ'.set i none) H', rt := D.rt, bk := fun σ' H' => D.bk (σ'.set i none) H', ct := fun σ' H' => D.ct (σ'.set i none) H' }
def wAsN (K : PySem.W.Frag) (Wout : WX) (D : Ends) : List Clz -> WX
  | [] => Wout
  | q :: r => fun cls d σ H => ∃ b, PySem.W.exmOne K cls q.c = some b ∧ (b = true -> ∀ a, H a = none -> q.ts a cls d (endsN q.i D) (σ.set q.i (some (.ref a))) H) ∧ (b = false -> wAsN K Wout D r cls d σ H)
section
variable {X : Cx} {pins : List (Addr × Obj)} {D : Ends} {Wout : WX} {a : Addr} {B : Heap} {sI s : Shared} {σ : L2.St} {H : Hp} {cls : Value} {d : Option Addr}
structure Lnd (X : Cx) (pins : List (Addr × Obj)) (a : Addr) (B : Heap) (sI s : Shared) (σ : L2.St) (H : Hp) (cls : Value) (d : Option Addr) : Prop where
  inv : Inv X pins σ H sI
  old : ∀ b o, sI.heap.get? b = some o -> b ∉ frs X.stack -> B.get? b = some o
  up : sI.heap.UpToSlots s.heap
  fl : HandSPX.FlyingZ B X.stack a (Zc cls d) s.heap
  na : H a = none
  os : s.os = sI.os
  ag : AllBare s.gens
theorem Lnd.here (L : Lnd X pins a B sI s σ H cls d) : Inv X pins σ H s := L.inv.landed L.old L.fl.1 L.up L.os L.ag
theorem Lnd.suite (L : Lnd X pins a B sI s σ H cls d) (hs : X.stack = X.env :: X.outer) (hf : X.env.frame = some X.env.locals) : ∃ oe, s.heap.get? a = some oe ∧ Zc cls d oe ∧ (∃ vs, oe.data = .fields vs) ∧ Inv (X.suite a ((a, oe) :: (X.pn ++ pins))) [] σ H s := by
  obtain ⟨oe, vs, he, hz, hd⟩ := L.fl.there
  have nfr : a ∉ frs (X.env :: X.outer) := fun hm => by
    rw [← hs] at hm
    obtain ⟨_, o', e', hnf⟩ := L.fl.2.2.1.mem hm
    rw [he] at e'; cases e'
    exact hnf _ hd
  exact ⟨oe, he, hz, ⟨vs, hd⟩, L.here.suite he hd L.na (fun z => nfr (List.mem_filterMap.mpr ⟨X.env, List.mem_cons_self, by rw [hf, z]⟩)) fun hm => by
    obtain ⟨e, h1, h2⟩ := List.mem_filterMap.mp hm
    exact nfr (List.mem_filterMap.mpr ⟨e, List.mem_cons_of_mem _ h1, h2⟩)⟩
theorem Lnd.out (L : Lnd X pins a B sI s σ H cls d) (hs : X.stack = X.env :: X.outer) (hf : X.env.frame = some X.env.locals) (tk : Takes X Wout) (w : Wout cls d σ H) : wpAny (model X.prog X.w) X.A (handleBy (.ref a) X.env []) (SP X pins D) X.xe s := by
  refine wpAny_handleBy_nil ?_
  obtain ⟨k1, k2, k3, oe, vs, T, oT, ts', he, hz, hd, h1, hr⟩ := id L.fl
  unfold PySem.passOn
  refine wpAny_bind (wpAny_field he hd h1 ?_)
  rw [if_neg (show ¬ ((Value.ref T == Value.none) = true) from by simp)]
  have fin : wpAny (model X.prog X.w) X.A (setFlight (.ref a) X.env.frame) (fun _ s4 => wpAny (model X.prog X.w) X.A (throw (.ref a) : Sem Flow) (SP X pins D) X.xe s4) X.xe s := by
    rw [hf]
    exact HandSPX.setFlight_upZ L.fl fun h4 hh4 up4 => wpAny_throw (tk _ _ ⟨a, B, sI, pins, σ, H, cls, d, rfl, L.inv, L.old, L.up.trans up4, .inr (.inr hh4), L.na, L.os, L.ag, w⟩)
  first
    | exact wpAny_bind (wpAny_pure (wpAny_bind fin))
    | exact wpAny_bind fin
theorem Lnd.go (hs : X.stack = X.env :: X.outer) (hf : X.env.frame = some X.env.locals) (hN : X.N.Nodup) (tk : Takes X Wout) (L : Lnd X pins a B sI s σ H cls d) : ∀ cl : List Clz, (∀ q ∈ cl, q.Ok X) -> wAsN X.K Wout D cl cls d σ H ->
    wpAny (model X.prog X.w) X.A (handleBy (.ref a) X.env (cl.map Clz.h)) (SP X pins D) X.xe s
  | [], _, w => L.out hs hf tk w
  | q :: r, hq, ⟨b, hb, yes, no⟩ => by
    have Q := hq q List.mem_cons_self
    obtain ⟨oe, he, hz, hd, S⟩ := L.suite hs hf
    refine wpAny_handleBy_cons (codeAny_handlers_test ?_) (by intro z; cases z)
    have LT : PySem.W.Looks (model X.prog X.w) s.heap (typeOf (.ref a)) cls := fun A Q E s k q => wpAny_typeOf_ref (k _ _ he) (by rw [hz.1]; exact q)
    have LM := PySem.W.exm_one (M := model X.prog X.w) L.here.kIn LT hb
    have test : ∀ {Q' : Value -> Shared -> Prop} {E : Value -> Shared -> Prop}, Q' q.c s -> wpAny (model X.prog X.w) (X.A.mark (some (.ref a))) (eval (.Name q.x q.np) X.env) Q' E s := fun {Q' E} z => by
      obtain ⟨hg, hdbg, hm | ⟨hm, hv, hnn⟩⟩ := Q.hc
      · exact ld_glob (X := X.suite a ((a, oe) :: (X.pn ++ pins))) S hg hm z hdbg
      · exact ld_blt (X := X.suite a ((a, oe) :: (X.pn ++ pins))) S hg hm hv z hnn hdbg
    refine test (LM.here ?_)
    cases b with
    | false => exact Lnd.go hs hf hN tk L r (fun q' h => hq q' (List.mem_cons_of_mem _ h)) (no rfl)
    | true =>
      refine codeAny_handlers_suite_as ?_
      refine HandSPX.lands_againZ L.fl fun h4 fl4 up4 => ?_
      have L4 : Lnd X pins a B sI { s with heap := h4 } σ H cls d := ⟨L.inv, L.old, L.up.trans up4, fl4, L.na, L.os, L.ag⟩
      obtain ⟨oe4, he4, hz4, hd4, S4⟩ := L4.suite hs hf
      refine store_ok (X := X.suite a ((a, oe4) :: (X.pn ++ pins))) (v := .ref a) S4 hN Q.hi (.inl Q.hln) rfl (fun s5 S5 => ?_) (.inr Q.hln)
      refine wpAny_mono ((Q.su a oe4 cls d (X.pn ++ pins) hz4 hd4).run [] s5 _ H _ S5 (yes rfl a L.na)) (fun f s6 hsp => ?_) (fun _ _ z => False.elim z)
      have gone : ∀ {σ6 : L2.St} {H6 : Hp} {Q' : Shared -> Prop}, Inv (X.suite a ((a, oe4) :: (X.pn ++ pins))) [] σ6 H6 s6 -> (∀ s7, Inv X pins (σ6.set q.i none) H6 s7 -> Q' s7) ->
          wpAny (model X.prog X.w) X.A (do bindName X.env q.n .none; unbindBehindTheSuite X.env q.n q.pos) (fun _ s7 => Q' s7) X.xe s6 := fun {σ6 H6 Q'} S6 h => gone_ok (S6.unsuite L.inv.ok) hN Q.hi Q.hln h
      cases f with
      | ret u =>
        obtain ⟨v6, σ6, H6, S6, r6, q6⟩ := hsp
        exact gone S6 fun s7 J7 => ⟨_, _, _, J7, r6, q6⟩
      | next | brk | cont =>
        obtain ⟨σ6, H6, S6, q6⟩ := hsp
        exact gone S6 fun s7 J7 => ⟨_, _, J7, q6⟩
end
end DM
namespace DM
open PySem PySem.Spec PyProof.Rows L2 DL
def DK (K : PySem.W.Frag) (u : Value) (d : D) : Prop := ∃ v, RelV v u ∧ ∀ F, Dr K F v d
def DKs (K : PySem.W.Frag) (us : List Value) (ds : List D) : Prop := ∃ vs, Vals vs us ∧ ∀ F, DrA K F vs ds
section
variable {K : PySem.W.Frag} {u : Value} {us : List Value} {d : D} {ds : List D}
theorem Zq9 {x : Str} {t : Tok} : DK K (.str x t) (.str x) := ⟨.str x, ⟨t, rfl⟩, fun _ => .str x⟩
theorem Zqc {x : Int} {t : Tok} : DK K (.int x t) (.int x) := ⟨.int x, ⟨t, rfl⟩, fun _ => .int x⟩
theorem Zrr {x : Bool} : DK K (.bool x) (.bl x) := ⟨.bl x, rfl, fun _ => .bl x⟩
theorem Zqa : DK K .none .non := ⟨.non, rfl, fun _ => .non⟩
theorem Zqb : DKs K [] [] := ⟨[], .nil, fun _ => .nil⟩
theorem Znb (h : DK K u d) (hs : DKs K us ds) : DKs K (u :: us) (d :: ds) := by
  obtain ⟨v, r, h⟩ := h
  obtain ⟨vs, rs, hs⟩ := hs
  exact ⟨v :: vs, .cons r rs, fun F => .cons (h F) (hs F)⟩
theorem Zq8 {a : Addr} {its : List Value} {n : Nat} {sl : Array (Option Value)} (l : K.lookup a = some ⟨.type "tuple", none, .seq its.toArray n, sl⟩) (h : DKs K its ds) (hz : Nat.ble its.length 1000 = true) : DK K (.ref a) (.tup ds) := by
  obtain ⟨vs, r, h⟩ := h
  exact ⟨.ref a, rfl, fun F => .tup (Or.inr ⟨_, _, _, l, rfl, rfl, rfl, by rw [List.size_toArray, sizeLine_eq]; have := Nat.le_of_ble_eq_true hz; omega, by rw [List.toList_toArray]; exact r⟩) (h F)⟩
theorem DK.glob {mg : Str -> Option Value} {x : Str} {h : Heap} (q : DK K u d) (X : K.In h) (G : h.Ns mainGlobals mg) (e : PySem.W.nsIn K mainGlobals x = some (some u)) : GlobD K mg x d := by
  obtain ⟨v, r, q⟩ := q
  exact ⟨v, u, PySem.W.mg_of X G e, r, q⟩
end
def litK (e : DictEntry) : Str := match e.key with
  | .str x _ => x
  | _ => Str.empty
theorem Zeq {P : Params} {z : Str} : ∀ {l : List DictEntry}, PySem.W.KeysLit P l -> (l.find? (·.key.isStr z)).isSome = (l.map litK).contains z
  | [], _ => rfl
  | e :: r, ⟨⟨x, t, h, _⟩, hr⟩ => by
    have ih := Zeq (z := z) hr
    have e1 : litK e = x := by unfold litK; rw [h]
    have e2 : e.key.isStr z = (x == z) := by rw [h]; rfl
    rw [List.map_cons, List.contains_cons, e1, List.find?_cons, e2]
    by_cases q : x = z
    · subst q; simp
    · have q1 : (x == z) = false := by simpa using q
      have q2 : (z == x) = false := by simpa using Ne.symm q
      rw [q1, q2, Bool.false_or]
      exact ih
theorem Zcc {P : Params} : ∀ {l : List DictEntry}, PySem.W.KeysLit P l -> l.any (·.refKey) = false
  | [], _ => rfl
  | e :: r, ⟨⟨x, t, h, _⟩, hr⟩ => by
    have : e.refKey = false := by unfold DictEntry.refKey; rw [h]
    rw [List.any_cons, this, Zcc hr]; rfl
theorem Zrk {K : PySem.W.Frag} {w : World} {mg : Str -> Option Value} {x : Str} {h : Heap} {d : Addr} {es : List DictEntry} {n : Nat} {ks : List Str} (X : K.In h) (G : h.Ns mainGlobals mg) (e : PySem.W.nsIn K mainGlobals x = some (some (.ref d)))
    (l : K.lookup d = some ⟨.type "dict", none, .dict es.toArray n, #[]⟩) (t : PySem.W.KeysLit w.params es) (s : (d == sysModules) = false) (hk : es.map litK = ks) : KdC K w mg x ks := by
  refine ⟨d, es.toArray, n, PySem.W.mg_of X G e, ⟨l, by rw [List.toList_toArray]; exact t, s⟩, fun z => ?_⟩
  unfold PySem.W.nsIn
  rw [l]
  simp only [List.toList_toArray]
  rw [← hk, ← Zeq (z := z) t]
  cases q : es.find? (·.key.isStr z) with
  | some e => exact ⟨_, rfl, rfl⟩
  | none => rw [Zcc t]; exact ⟨_, rfl, rfl⟩
section
variable {P : Program} {w : World} {K : PySem.W.Frag} {mg : Str -> Option Value} {base : Heap} {j k : Nat} {f : Addr} {nw : Option (List Str)} {fs : List Str} {C m : Str} {c : Addr}
theorem PrP.up {mf : List D -> R Unit D} (F : PrP P w K mg base j f nw mf) (h : Nat.ble j k = true) : PrP P w K mg base k f nw mf := fun n => (F n).up (Nat.le_of_ble_eq_true h)
theorem PrR.up {mf : List D -> R Unit (D × D)} (F : PrR P w K mg base j f fs mf) (h : Nat.ble j k = true) : PrR P w K mg base k f fs mf := fun n => (F n).up (Nat.le_of_ble_eq_true h)
theorem Z5h {mf : List D -> R Unit D} (a : PySem.W.nsIn K mainGlobals C = some (some (.ref c))) (h : Cls K c) (hm : Meth K c m f) (F : PrP P w K mg base k f nw mf) : MethC P w K mg base k C m nw mf := ⟨fun c' h' => by
  have e := a.symm.trans h'
  cases e
  exact ⟨h, f, hm, F⟩⟩
theorem Zi8 (a : PySem.W.nsIn K mainGlobals C = some (some (.ref c))) (h : Cls K c) (n : NoAttr K c m) : FldC K C m := ⟨fun c' h' => by
  have e := a.symm.trans h'
  cases e
  exact ⟨h, n⟩⟩
end
end DM
namespace DM
open PySem PySem.Spec PyProof.Rows L2 DL
theorem Z5j {α : Type} {P : Str -> α -> Prop} {n : Str} {v : α} {r : Str -> Option α} (h : P n v) (t : ∀ C b, r C = some b -> P C b) : ∀ C b, (if C = n then some v else r C) = some b -> P C b := fun C b e => by
  by_cases q : C = n
  · rw [if_pos q] at e
    cases e
    rw [q]; exact h
  · rw [if_neg q] at e
    exact t C b e
theorem Z44 {α : Type} {P : Str -> α -> Prop} : ∀ (C : Str) (b : α), (none : Option α) = some b -> P C b := fun _ _ e => nomatch e
theorem Ze0 {P : Str -> Prop} {n : Str} (h : P n) : ∀ C, (C == n) = true -> P C := fun C e => by
  rw [beq_iff_eq.mp e]; exact h
end DM
namespace DM
open PySem PySem.Spec PyProof.Rows PySem.W L2 DL DX
section
variable {P : Program} {K : PySem.W.Frag} {mg : Str -> Option Value} {h : Heap} {B newId i : String} {bmB bm : List Value} {x p r : Str} {C fI cda cc : Addr} {nm q : Str} {N : Addr} {bs : List Value} {sn : List Str} {sub : List Value} {ab : Bool} {col : Option Bool} {dd : Option Addr} {k0 k1 k2 k3 k5 : Option Value}
  {oc doc pm ct : Value} {od an : Option Addr} {osl : Array (Option Value)} {qn : Str} {p0 p1 p2 q1 q2 q3 q4 q4' q5 q6 q7 q8 q9 q10 r7 r8 r9 r10 : Pos} {oce ocd : Obj} {vs : Array Value} {file : Str} {tf : Tok}
theorem Zn8 (BF : BaseF B newId i bmB) (X : K.In h) (G : h.Ns mainGlobals mg) (aC : nsIn K mainGlobals x = some (some (.ref C))) (lC : K.lookup C = some (excClassObj nm q C N bs bm true sn sub ab col dd k0 k1 k2 k3 k5 newId)) (rb : Z85 bmB bm = true)
    (sB : subIn K (.ref C) (.type B) = some true) (su : ks_superIn K C C "__init__" = some (some (.builtin i))) (sa : findIn K (.ref C) "__setattr__" = some (some (.builtin "object.__setattr__"))) (n1 : findIn K (.ref C) p = some none) (iC : findIn K (.ref C) "__init__" = some (some (.ref fI)))
    (tC : typeIn K (.ref fI) = some (.type "function")) (kC : keepIn K (.ref C) = true) (sb : subIn K (.ref C) (.ref C) = some true) (eC : subIn K (.ref C) (.type "BaseException") = some true) (tyC : typeIn K (.ref C) = some (.type "type")) (top : nsIn K cStatics "thirdparty.any" = some none) (hs : nsIn K mainGlobals "super" = some none)
    (lf : K.lookup fI = some ⟨oc, od, .func (ksFn "__init__" qn (pars [("self", p0), (p, p1)]) (bd1 p q1 q2 q3 q4 q5 q6 q7 q8 q9 q10) (scp [p]) .none .none doc pm an (.ref cda) ct cc), osl⟩) (cI : codeIn K (.ref cda) qn = true) (lc : K.lookup cc = some oce) (ec : oce.data = .cell (some (.ref C))) (ld : K.lookup cda = some ocd) (ed : ocd.data = .fields vs) (e2 : vs[2]? = some (.str file tf))
    (fe : ((P.main.file : Str) == file) = true) (tp : (P.main.scope.names.lookup ("super" : Str)).isSome = false) (s1 : (scp [p]).names.lookup ("super" : Str) = some .globalImplicit) (s2 : (scp [p]).names.lookup ("__class__" : Str) = some .free) (s3 : (scp [p]).names.lookup ("self" : Str) = some .local) (s4 : (scp [p]).names.lookup p = some .local) (s5 : (p == ("__debug__" : Str)) = false) (s6 : p ≠ "self")
    (hb : L2.Binds K (ksFn "__init__" qn (pars [("self", p0), (p, p1)]) (bd1 p q1 q2 q3 q4 q5 q6 q7 q8 q9 q10) (scp [p]) .none .none doc pm an (.ref cda) ct cc) ["self", p] []) (hev : Hev qn (scp [p]) fI cda cc q1 q2 q3 q5 [.Name p q4]) : ErrC P K mg x [p] := by
  refine ⟨C, fI, ⟨mg_of X G aC, ⟨B, newId, i, bmB, nm, q, N, bs, bm, sn, sub, ab, col, dd, k0, k1, k2, k3, k5, BF, lC, rb, sB, su⟩, sa, ?_, iC, tC, kC, sb, eC, tyC, top, mg_none_of X G hs, tp, s1, s2, s3, ?_, ⟨oc, od, doc, pm, an, cda, cc, ct, osl, qn, [p0, p1], _, ocd, oce, vs, file, tf, lf, hb, cI, rfl, lc, ec, ld, ed, e2, fe, .inl ⟨p, rfl, _, _, _, _, _, _, _, _, _, _, rfl, hev⟩⟩⟩, aC⟩
  · intro y hy
    rw [List.mem_singleton.mp hy]; exact n1
  · intro y hy
    rw [List.mem_singleton.mp hy]; exact ⟨s4, s5, s6⟩
end
end DM
namespace PL
open PySem L2 DM
section
variable {β α γ ω S : Type}
@[simp] theorem bind_ok (a : α) (k : α -> R β γ) : R.bind (.ok a) k = k a := id rfl
@[simp] theorem bind_ex (x : Exn) (b : β) (k : α -> R β γ) : R.bind (.ex x b) k = .ex x b := id rfl
@[simp] theorem call_ok (a : α) (xb : β) (k : α -> R β γ) : R.call (.ok a) xb k = k a := id rfl
@[simp] theorem call_ex (x : Exn) (u : Unit) (xb : β) (k : α -> R β γ) : R.call (.ex x u) xb k = .ex x xb := id rfl
@[simp] theorem call1e_ok (a w : D) (xb : β) (k : D -> D -> R β γ) : R.call1e (.ok (a, w)) xb k = k a w := id rfl
@[simp] theorem call1e_ex (x : Exn) (u : Unit) (xb : β) (k : D -> D -> R β γ) : R.call1e (.ex x u) xb k = .ex x xb := id rfl
@[simp] theorem make_ok (o : D) (xb : β) (k : D -> R β γ) : R.make (.ok (.non, o)) xb k = k o := id rfl
@[simp] theorem make_ex (x : Exn) (u : Unit) (xb : β) (k : D -> R β γ) : R.make (.ex x u) xb k = .ex x xb := id rfl
@[simp] theorem lft_some (a : α) (k : α -> R β γ) : R.lft (some a) k = k a := id rfl
@[simp] theorem asB_bl (b : Bool) (k : Bool -> R β γ) : R.asB (.bl b) k = k b := id rfl
@[simp] theorem asI_int (i : Int) (k : Int -> R β γ) : R.asI (.int i) k = k i := id rfl
@[simp] theorem asL_lst (ds : List D) (k : List D -> R β γ) : R.asL (.lst ds) k = k ds := id rfl
@[simp] theorem asQ_lst (ds : List D) (k : List D -> R β γ) : R.asQ (.lst ds) k = k ds := id rfl
@[simp] theorem asQ_tup (ds : List D) (k : List D -> R β γ) : R.asQ (.tup ds) k = k ds := id rfl
@[simp] theorem asS_str (z : Str) (k : Str -> R β γ) : R.asS (.str z) k = k z := id rfl
@[simp] theorem items_lst (ds : List D) (k : List D -> R β γ) : R.items (.lst ds) k = k ds := id rfl
@[simp] theorem items_tup (ds : List D) (k : List D -> R β γ) : R.items (.tup ds) k = k ds := id rfl
@[simp] theorem tup2_tup (x y : D) (k : D -> D -> R β γ) : R.tup2 (.tup [x, y]) k = k x y := id rfl
@[simp] theorem tup2_lst (x y : D) (k : D -> D -> R β γ) : R.tup2 (.lst [x, y]) k = k x y := id rfl
@[simp] theorem join_eq (r : S -> R β ω) (f : (S -> R β ω) -> R β ω) : R.join r f = f r := id rfl
@[simp] theorem bind2_ok (a : α) (w : D) (k : α -> D -> R β γ) : R.bind2 (.ok (a, w)) k = k a w := id rfl
@[simp] theorem after_nx (s : S) (k : S -> R β ω) (kr : D -> S -> R β ω) : R.after (.ok (.nx s)) k kr = k s := id rfl
@[simp] theorem after_rt (d : D) (s : S) (k : S -> R β ω) (kr : D -> S -> R β ω) : R.after (.ok (.rt d s)) k kr = kr d s := id rfl
@[simp] theorem turn_nx (s : S) (n : S -> R β (Step S)) : R.turn (.ok (.nx s)) n = n s := id rfl
@[simp] theorem turn_bk (s : S) (n : S -> R β (Step S)) : R.turn (.ok (.bk s)) n = .ok (.nx s) := id rfl
@[simp] theorem turn_rt (d : D) (s : S) (n : S -> R β (Step S)) : R.turn (.ok (.rt d s)) n = .ok (.rt d s) := id rfl
@[simp] theorem for_nil (s : S) (f : D -> S -> R β (Step S)) : R.for' [] s f = .ok (.nx s) := id rfl
@[simp] theorem for_cons (d : D) (ds : List D) (s : S) (f : D -> S -> R β (Step S)) : R.for' (d :: ds) s f = R.turn (f d s) fun s' => R.for' ds s' f := id rfl
@[simp] theorem lst_ok (ys : List D) (s : S) (k : D -> S -> R β γ) : R.lst (.ok (ys, s)) k = k (.lst ys) s := id rfl
@[simp] theorem prop_ok (a : α) (k : α -> R β γ) : R.prop (.ok a) k = k a := id rfl
theorem szl : sizeLine = 16777216 := sizeLine_eq
@[simp] theorem few_eq (ds : List D) (k : List D -> R β γ) : R.few ds k = if ds.length ≤ 16777216 then k ds else .no := by
  unfold R.few DM.few
  rw [szl]
  by_cases h : ds.length ≤ 16777216 <;> simp [h]
theorem few0 (k' : List D -> R β γ) : R.few [] k' = k' [] := by rw [few_eq, if_pos (by simp only [List.length_cons, List.length_nil]; omega)]
theorem few1 (a : D) (k' : List D -> R β γ) : R.few [a] k' = k' [a] := by rw [few_eq, if_pos (by simp only [List.length_cons, List.length_nil]; omega)]
theorem few2 (a b : D) (k' : List D -> R β γ) : R.few [a, b] k' = k' [a, b] := by rw [few_eq, if_pos (by simp only [List.length_cons, List.length_nil]; omega)]
theorem few3 (a b c : D) (k' : List D -> R β γ) : R.few [a, b, c] k' = k' [a, b, c] := by rw [few_eq, if_pos (by simp only [List.length_cons, List.length_nil]; omega)]
theorem few5 (a b c d e : D) (k' : List D -> R β γ) : R.few [a, b, c, d, e] k' = k' [a, b, c, d, e] := by rw [few_eq, if_pos (by simp only [List.length_cons, List.length_nil]; omega)]
theorem few6 (a b c d e f : D) (k' : List D -> R β γ) : R.few [a, b, c, d, e, f] k' = k' [a, b, c, d, e, f] := by rw [few_eq, if_pos (by simp only [List.length_cons, List.length_nil]; omega)]
theorem few7 (a b c d e f g : D) (k' : List D -> R β γ) : R.few [a, b, c, d, e, f, g] k' = k' [a, b, c, d, e, f, g] := by rw [few_eq, if_pos (by simp only [List.length_cons, List.length_nil]; omega)]
@[simp] theorem push_eq (ds : List D) (y : D) (k : D -> R β ω) : R.push ds y k = if ds.length < 16777216 then k (.lst (ds ++ [y])) else .no := by
  unfold R.push
  rw [szl]
@[simp] theorem fld_obj (cs : Str -> Bool) (f C : Str) (gs : List (Str × D)) (k : D -> R β γ) : Z3d cs f (.obj C gs) k = if cs C then R.lft (gs.lookup f) k else .no := id rfl
@[simp] theorem meth_obj (mt : Str -> Option (List D -> R Unit D)) (m C : Str) (gs : List (Str × D)) (k : (List D -> R Unit D) -> R β γ) : Zi mt m (.obj C gs) k = if (gs.lookup m).isNone then R.lft (mt C) k else .no := id rfl
@[simp] theorem ite_ok (c : Prop) [Decidable c] (x y : α) : (if c then (R.ok x : R β α) else R.ok y) = R.ok (if c then x else y) := by split <;> rfl
@[simp] theorem ite_bl (c : Prop) [Decidable c] (x y : Bool) : (if c then D.bl x else D.bl y) = D.bl (if c then x else y) := by split <;> rfl
@[simp] theorem ite_int (c : Prop) [Decidable c] (x y : Int) : (if c then D.int x else D.int y) = D.int (if c then x else y) := by split <;> rfl
@[simp] theorem eq_str (a b : Str) : eqG (.str a) (.str b) = some (.bl (decide (a = b))) := id rfl
@[simp] theorem eq_int (a b : Int) : eqG (.int a) (.int b) = some (.bl (decide (a = b))) := id rfl
@[simp] theorem eq_bl (a b : Bool) : eqG (.bl a) (.bl b) = some (.bl (decide (a = b))) := id rfl
@[simp] theorem ne_str (a b : Str) : neG (.str a) (.str b) = some (.bl (!decide (a = b))) := id rfl
@[simp] theorem ne_int (a b : Int) : neG (.int a) (.int b) = some (.bl (!decide (a = b))) := id rfl
@[simp] theorem ne_bl (a b : Bool) : neG (.bl a) (.bl b) = some (.bl (!decide (a = b))) := id rfl
@[simp] theorem add_int (a b : Int) : addA (.int a) (.int b) = some (.int (a + b)) := id rfl
@[simp] theorem add_lst (a b : List D) : addA (.lst a) (.lst b) = if a.length + b.length ≤ 16777216 then some (.lst (a ++ b)) else none := by
  rw [← szl]; rfl
@[simp] theorem cat_lst (a b : List D) : Zg5 (.lst a) (.lst b) = if a.length + b.length ≤ 16777216 then some (.lst (a ++ b)) else none := by
  rw [← szl]; rfl
@[simp] theorem sub_int (a b : Int) : subG (.int a) (.int b) = some (.int (a - b)) := id rfl
@[simp] theorem lt_int (a b : Int) : ltG (.int a) (.int b) = some (.bl (decide (a < b))) := id rfl
@[simp] theorem le_int (a b : Int) : leG (.int a) (.int b) = some (.bl (decide (a ≤ b))) := id rfl
@[simp] theorem gt_int (a b : Int) : gtG (.int a) (.int b) = some (.bl (decide (b < a))) := id rfl
@[simp] theorem ge_int (a b : Int) : geG (.int a) (.int b) = some (.bl (decide (b ≤ a))) := id rfl
@[simp] theorem max_int (a b : Int) : Z9m [.int a, .int b] = some (.int (if b > a then b else a)) := id rfl
@[simp] theorem min_int (a b : Int) : Zdg [.int a, .int b] = some (.int (if b < a then b else a)) := id rfl
@[simp] theorem int_int (a : Int) : Z4y [.int a] = some (.int a) := id rfl
@[simp] theorem int_bl (b : Bool) : Z4y [.bl b] = some (.int (if b then 1 else 0)) := id rfl
@[simp] theorem len_lst (ds : List D) : lenG [.lst ds] = some (.int ds.length) := id rfl
@[simp] theorem len_tup (ds : List D) : lenG [.tup ds] = some (.int ds.length) := id rfl
@[simp] theorem list_lst (ds : List D) : Z8y [.lst ds] = some (.lst ds) := id rfl
@[simp] theorem list_tup (ds : List D) : Z8y [.tup ds] = some (.lst ds) := id rfl
@[simp] theorem sl_lst (ds : List D) (lo hi : Option Int) : slG (.lst ds) lo hi = some (.lst (cutD ds lo hi)) := id rfl
@[simp] theorem sl_tup (ds : List D) (lo hi : Option Int) : slG (.tup ds) lo hi = some (.tup (cutD ds lo hi)) := id rfl
@[simp] theorem ix_lst (ds : List D) (i : Int) : ixG (.lst ds) (.int i) = atI ds i := id rfl
@[simp] theorem ix_tup (ds : List D) (i : Int) : ixG (.tup ds) (.int i) = atI ds i := id rfl
@[simp] theorem isi_str (z : Str) : isiG [.str z, .ty "str"] = some (.bl true) := id rfl
@[simp] theorem notN_non : Z4u .non .non = some (.bl false) := id rfl
theorem Zil {α : Type} {xs : List α} {i : Nat} {x : α} (h : xs[i]? = some x) : atI xs (i : Int) = some x := by
  have hl : i < xs.length := by
    rcases List.getElem?_eq_some_iff.mp h with ⟨h, _⟩; exact h
  unfold atI ixN
  rw [if_pos (by omega), if_pos (by omega)]
  simp [h]
theorem Zqi {α : Type} {xs : List α} {i : Int} (h0 : 0 ≤ i) (h1 : i < xs.length) : ∃ x, atI xs i = some x ∧ x ∈ xs := by
  obtain ⟨n, rfl⟩ : ∃ n : Nat, i = n := ⟨i.toNat, by omega⟩
  have hn : n < xs.length := by omega
  exact ⟨xs[n], Zil (List.getElem?_eq_getElem hn), List.getElem_mem hn⟩
theorem Zfb {α : Type} (xs : List α) (n : Nat) : cutD xs none (some (n : Int)) = xs.take n := by
  unfold cutD
  rw [HT.sIx_nat, HT.sIx_none]
  simp only [List.drop_zero, Nat.sub_zero]
  rcases Nat.le_total n xs.length with h | h
  · rw [Nat.min_eq_left h]
  · rw [Nat.min_eq_right h, List.take_length, List.take_of_length_le h]
theorem Zli {α : Type} (xs : List α) (n : Nat) : cutD xs (some (n : Int)) none = xs.drop n := by
  unfold cutD
  rw [HT.sIx_nat, HT.sIx_none]
  rcases Nat.le_total n xs.length with h | h
  · rw [Nat.min_eq_left h, List.take_of_length_le (by rw [List.length_drop]; omega)]
  · rw [Nat.min_eq_right h, List.drop_length, List.drop_of_length_le h]; simp
theorem Zih {α : Type} (xs : List α) (n m : Nat) : cutD xs (some (n : Int)) (some (m : Int)) = (xs.take m).drop n := by
  unfold cutD
  rw [HT.sIx_nat, HT.sIx_nat, List.drop_take]
  rcases Nat.le_total n xs.length with h | h
  · rw [Nat.min_eq_left h]
    rcases Nat.le_total m xs.length with h' | h'
    · rw [Nat.min_eq_left h']
    · rw [Nat.min_eq_right h', List.take_of_length_le (by rw [List.length_drop]; omega), List.take_of_length_le (by rw [List.length_drop]; omega)]
  · rw [Nat.min_eq_right h, List.drop_length, List.drop_of_length_le h]; simp
theorem Zb0 {f : D -> Unit -> R β (Step Unit)} : ∀ {ds : List D}, (∀ d ∈ ds, f d () = .ok (.nx ())) -> R.for' ds () f = .ok (.nx ())
  | [], _ => rfl
  | d :: ds, h => by
    rw [for_cons, h d List.mem_cons_self, turn_nx]
    exact Zb0 fun x hx => h x (List.mem_cons_of_mem _ hx)
theorem Zie (ds : List D) (k : List D -> R β γ) : R.enumA (.lst ds) k = k (Z6q ds) := rfl
theorem Z99 (ds : List D) (k : List D -> R β γ) : R.enumA (.tup ds) k = k (Z6q ds) := rfl
theorem Zf6 {ds : List D} {d : D} (h : d ∈ Z6q ds) : ∃ (i : Nat) (x : D), ds[i]? = some x ∧ d = .tup [.int i, x] := by
  unfold Z6q at h
  obtain ⟨i, hi, rfl⟩ := List.getElem_of_mem h
  simp only [List.getElem_zipWith, List.getElem_range]
  simp only [List.length_zipWith, List.length_range] at hi
  exact ⟨i, ds[i]'(by omega), List.getElem?_eq_getElem _, rfl⟩
end
end PL
namespace PL
open PySem L2 DM
def Z71 : List D -> R Unit D
  | [a0, a1, a2] => R.asI (.int 1) fun x3 => R.lft (subG (.int (-x3)) a0) fun x4 => R.lft (Z9m [a0, x4]) fun x5 => R.few [] fun l6 => R.lft (lenG [a2]) fun x7 => R.rng1 x7 fun l8 => R.after (R.for' l8 ((x5, (.lst l6)) : D × D) fun d9 s10 => R.bind (R.lft (powG (.int 10) (.int 18)) fun x11 => R.lft (geG x5 x11) fun x12 => R.asB x12 fun b13 => if b13 then R.lft (gtG s10.1 (.int 0)) fun x14 => R.asB x14 fun b15 => R.ok b15 else R.ok false) fun b16 => if b16 then R.asL s10.2 fun l17 => R.lft (ixG a2 d9) fun x18 => R.lft (modG s10.1 x18) fun x19 => R.push l17 x19 fun x20 => R.lft (ixG a2 d9) fun x21 => R.lft (divG s10.1 x21) fun x22 => R.ok (Step.nx ((x22, x20) : D × D)) else R.lft (modG x5 (.int 2147483629)) fun x23 => R.lft (mulG (.int 7919) a1) fun x24 => R.lft (addA x23 x24) fun x25 => R.lft (addA x25 (.int 1)) fun x26 => R.lft (powG x26 (.int 3)) fun x27 => R.lft (modG x27 (.int 2147483647)) fun x28 => R.lft (addA d9 (.int 1)) fun x29 => R.lft (mulG (.int 104729) x29) fun x30 => R.lft (addA x28 x30) fun x31 => R.lft (addA d9 (.int 3)) fun x32 => R.lft (mulG x31 x32) fun x33 => R.lft (modG x33 (.int 2147483629)) fun x34 => R.lft (powG x34 (.int 5)) fun x35 => R.lft (modG x35 (.int 2147483647)) fun x36 => R.lft (mulG x36 (.int 48271)) fun x37 => R.lft (modG x37 (.int 2147483629)) fun x38 => R.asL s10.2 fun l39 => R.lft (divG x38 (.int 16)) fun x40 => R.lft (ixG a2 d9) fun x41 => R.lft (modG x40 x41) fun x42 => R.push l39 x42 fun x43 => R.ok (Step.nx ((s10.1, x43) : D × D))) (fun s44 => R.ok s44.2) fun d45 s46 => R.ok d45
  | _ => .no
def Zl4 : List D -> R Unit D
  | [a0, a1, a2] => R.few [(.int 420)] fun l3 => R.lft (repG (.lst l3) a2) fun x4 => R.call (Z71 [a0, a1, x4]) () fun x5 => R.few [x5, (.int 0)] fun l6 => R.ok (.lst l6)
  | _ => .no
def m_draw : List D -> R Unit (D × D)
  | [a0, a1] => R.lft (ixG a0 (.int 1)) fun x2 => R.asL a0 fun l3 => R.lft (addA x2 (.int 1)) fun x4 => R.setAt l3 (.int 1) x4 fun x5 => R.bind (R.lft (ixG x5 (.int 0)) fun x6 => R.lft (lenG [x6]) fun x7 => R.lft (ltG x2 x7) fun x8 => R.asB x8 fun b9 => if b9 then R.lft (ixG x5 (.int 0)) fun x10 => R.lft (ixG x10 x2) fun x11 => R.lft (Z4y [x11]) fun x12 => R.lft (modG x12 a1) fun x13 => R.ok x13 else R.ok (.int 0)) fun x14 => R.ok (x14, x5)
  | _ => .no
def m_pick : List D -> R Unit (D × D)
  | [a0, a1] => R.lft (lenG [a1]) fun x2 => R.call1e (m_draw [a0, x2]) () fun x3 w4 => R.lft (ixG a1 x3) fun x5 => R.ok (x5, w4)
  | _ => .no
theorem mod_int {a b : Int} (h : 0 < b) : modG (.int a) (.int b) = some (.int (a % b)) := by
  show (if cMod a b then _ else _) = _
  rw [if_pos (by simp [cMod, h])]
theorem Zif {a b : Int} (h : 0 < b ∧ b < 1073741824) : divG (.int a) (.int b) = some (.int (a / b)) := by
  show (if cDiv a b then _ else _) = _
  rw [if_pos (by simp [cDiv, h])]
theorem mul_int {a b : Int} (h : (-(2 ^ 64) < a ∧ a < 2 ^ 64) ∨ (-(2 ^ 64) < b ∧ b < 2 ^ 64)) : mulG (.int a) (.int b) = some (.int (a * b)) := by
  show (if cMul a b then _ else _) = _
  rw [if_pos (by unfold cMul; rcases h with h | h <;> simp only [h, and_self, decide_true, Bool.true_or, Bool.or_true])]
theorem pow_int {a b : Int} (h : 0 ≤ b ∧ b ≤ 1000000 ∧ a.natAbs < 2 ^ 64) : powG (.int a) (.int b) = some (.int (a ^ b.toNat)) := by
  show (if cPow a b then _ else _) = _
  rw [if_pos (by unfold cPow; exact decide_eq_true h)]
section
variable {β γ S : Type}
theorem Zf4 {I : Nat -> S -> Prop} {f : D -> S -> R β (Step S)} : ∀ {ds : List D} {s : S} (n : Nat), I n s -> (∀ i d, ds[i]? = some d -> ∀ s, I (n + i) s -> ∃ s', f d s = .ok (.nx s') ∧ I (n + i + 1) s') -> ∃ s', R.for' ds s f = .ok (.nx s') ∧ I (n + ds.length) s'
  | [], s, n, h, _ => ⟨s, rfl, h⟩
  | d :: ds, s, n, h, hf => by
    obtain ⟨s1, e, h1⟩ := hf 0 d rfl s h
    rw [for_cons, e, turn_nx]
    obtain ⟨s2, e2, h2⟩ := Zf4 (ds := ds) (n + 1) h1 fun i x hx s hs => by
      have := hf (i + 1) x (by simpa using hx) s (by rw [show n + (i + 1) = n + 1 + i by omega]; exact hs)
      rw [show n + (i + 1) + 1 = n + 1 + i + 1 by omega] at this
      exact this
    exact ⟨s2, e2, by rw [List.length_cons, show n + (ds.length + 1) = n + 1 + ds.length by omega]; exact h2⟩
theorem Zm4 {n i : Nat} {d : D} (h : (rngD 0 n)[i]? = some d) : i < n ∧ d = .int i := by
  unfold rngD at h
  rw [List.getElem?_map] at h
  cases q : (List.range n)[i]? with
  | none => rw [q] at h; cases h
  | some j =>
    rw [q] at h
    obtain ⟨hj, e⟩ := List.getElem?_eq_some_iff.mp q
    rw [List.getElem_range] at e
    rw [List.length_range] at hj
    subst e
    cases h
    exact ⟨hj, by simp⟩
theorem Zef (n : Nat) (h : n ≤ 16777216) (k : List D -> R β γ) : R.rng1 (.int n) k = k (rngD 0 n) := by
  unfold R.rng1
  simp only
  split
  · rw [Int.toNat_natCast]
  · rename_i q
    exact absurd ⟨by omega, by omega⟩ q
end
theorem Z6p {zs : List Int} {i : Nat} {z : Int} (h : zs[i]? = some z) : atI (zs.map D.int) (i : Int) = some (.int z) := Zil (by rw [List.getElem?_map, h]; rfl)
def Below (ns zs : List Int) (i : Nat) : Prop := ns.length = i ∧ ∀ (k : Nat) (v : Int), ns[k]? = some v -> ∃ z : Int, zs[k]? = some z ∧ 0 ≤ v ∧ v < z
theorem Below.push {ns zs : List Int} {i : Nat} {z v : Int} (h : Below ns zs i) (hz : zs[i]? = some z) (h0 : 0 ≤ v) (h1 : v < z) : Below (ns ++ [v]) zs (i + 1) := by
  refine ⟨by rw [List.length_append, h.1]; rfl, fun k u hu => ?_⟩
  rw [List.getElem?_append] at hu
  split at hu
  · exact h.2 k u hu
  · rename_i hk
    have : k - ns.length = 0 := by
      rcases Nat.eq_zero_or_pos (k - ns.length) with q | q
      · exact q
      · rw [List.getElem?_eq_none (by simp only [List.length_singleton]; omega)] at hu; cases hu
    rw [this] at hu
    cases hu
    have : k = i := by have := h.1; omega
    subst this
    exact ⟨z, hz, h0, h1⟩
def Zj2 (whole salt : Int) (zs : List D) : D -> D × D -> R Unit (Step (D × D)) := fun d9 s10 => R.bind (R.lft (powG (.int 10) (.int 18)) fun x11 => R.lft (geG (.int whole) x11) fun x12 => R.asB x12 fun b13 => if b13 then R.lft (gtG s10.1 (.int 0)) fun x14 => R.asB x14 fun b15 => R.ok b15 else R.ok false) fun b16 => if b16 then R.asL s10.2 fun l17 => R.lft (ixG (.lst zs) d9) fun x18 => R.lft (modG s10.1 x18) fun x19 => R.push l17 x19 fun x20 => R.lft (ixG (.lst zs) d9) fun x21 => R.lft (divG s10.1 x21) fun x22 => R.ok (Step.nx ((x22, x20) : D × D)) else R.lft (modG (.int whole) (.int 2147483629)) fun x23 => R.lft (mulG (.int 7919) (.int salt)) fun x24 => R.lft (addA x23 x24) fun x25 => R.lft (addA x25 (.int 1)) fun x26 => R.lft (powG x26 (.int 3)) fun x27 => R.lft (modG x27 (.int 2147483647)) fun x28 => R.lft (addA d9 (.int 1)) fun x29 => R.lft (mulG (.int 104729) x29) fun x30 => R.lft (addA x28 x30) fun x31 => R.lft (addA d9 (.int 3)) fun x32 => R.lft (mulG x31 x32) fun x33 => R.lft (modG x33 (.int 2147483629)) fun x34 => R.lft (powG x34 (.int 5)) fun x35 => R.lft (modG x35 (.int 2147483647)) fun x36 => R.lft (mulG x36 (.int 48271)) fun x37 => R.lft (modG x37 (.int 2147483629)) fun x38 => R.asL s10.2 fun l39 => R.lft (divG x38 (.int 16)) fun x40 => R.lft (ixG (.lst zs) d9) fun x41 => R.lft (modG x40 x41) fun x42 => R.push l39 x42 fun x43 => R.ok (Step.nx ((s10.1, x43) : D × D))
theorem Zj1 (whole salt : Int) (zs ns : List Int) (left : Int) (i : Nat) (hs : 0 ≤ salt ∧ salt ≤ 1000000000) (hi : i < 1000000) (hb : Below ns zs i) (z : Int) (hzi : zs[i]? = some z) (z0 : 0 < z) (z1 : z < 1073741824) : ∃ s', Zj2 whole salt (zs.map .int) (.int i) (.int left, .lst (ns.map .int)) = .ok (.nx s') ∧ ∃ (left : Int) (ns : List Int), s' = (.int left, .lst (ns.map .int)) ∧ Below ns zs (i + 1) := by
  have hn : (ns.map D.int).length < 16777216 := by rw [List.length_map]; have := hb.1; omega
  unfold Zj2
  rw [pow_int ⟨by omega, by omega, by omega⟩, lft_some, ge_int, lft_some, asB_bl]
  generalize decide ((10 : Int) ^ (18 : Int).toNat ≤ whole) = b
  have e1 : (if b = true then R.lft (gtG (D.int left) (.int 0)) fun x14 => R.asB x14 fun b15 => R.ok b15 else R.ok false : R Unit Bool) = R.ok (b && decide (0 < left)) := by
    cases b <;> rfl
  show ∃ s', R.bind (if b = true then R.lft (gtG (D.int left) (.int 0)) fun x14 => R.asB x14 fun b15 => R.ok b15 else R.ok false) _ = _ ∧ _
  rw [e1, bind_ok]
  generalize (b && decide (0 < left)) = c
  cases c
  · rw [if_neg (by simp)]
    have a1 : 0 ≤ whole % 2147483629 ∧ whole % 2147483629 < 2147483629 := ⟨Int.emod_nonneg _ (by omega), Int.emod_lt_of_pos _ (by omega)⟩
    rw [mod_int (by omega), lft_some]
    generalize whole % 2147483629 = v0 at a1
    rw [mul_int (Or.inl (by omega)), lft_some, add_int, lft_some, add_int, lft_some, pow_int (by omega), lft_some]
    generalize (v0 + 7919 * salt + 1) ^ (3 : Int).toNat = v1
    rw [mod_int (by omega), lft_some]
    generalize v1 % 2147483647 = v2
    rw [add_int, lft_some, mul_int (Or.inl (by omega)), lft_some, add_int, lft_some, add_int, lft_some, mul_int (Or.inr (by omega)), lft_some]
    generalize (v2 + 104729 * ((i : Int) + 1)) * ((i : Int) + 3) = v3
    have a2 : 0 ≤ v3 % 2147483629 ∧ v3 % 2147483629 < 2147483629 := ⟨Int.emod_nonneg _ (by omega), Int.emod_lt_of_pos _ (by omega)⟩
    rw [mod_int (by omega), lft_some]
    generalize v3 % 2147483629 = v4 at a2
    rw [pow_int (by omega), lft_some]
    generalize v4 ^ (5 : Int).toNat = v5
    rw [mod_int (by omega), lft_some, mul_int (Or.inr (by omega)), lft_some, mod_int (by omega), lft_some, asL_lst, Zif (by omega), lft_some, ix_lst, Z6p hzi, lft_some, mod_int z0, lft_some, push_eq, if_pos hn]
    generalize v5 % 2147483647 * 48271 % 2147483629 / 16 = v6
    exact ⟨_, rfl, left, ns ++ [v6 % z], by rw [List.map_append]; rfl, hb.push hzi (Int.emod_nonneg _ (by omega)) (Int.emod_lt_of_pos _ z0)⟩
  · rw [if_pos rfl, asL_lst, ix_lst, Z6p hzi, lft_some, mod_int z0, lft_some, push_eq, if_pos hn, lft_some, Zif (And.intro z0 z1), lft_some]
    exact ⟨_, rfl, left / z, ns ++ [left % z], by rw [List.map_append]; rfl, hb.push hzi (Int.emod_nonneg _ (by omega)) (Int.emod_lt_of_pos _ z0)⟩
theorem Zft (c salt : Int) (zs : List Int) (hl : zs.length ≤ 1000000) : Z71 [.int c, .int salt, .lst (zs.map .int)] = R.after (R.for' (rngD 0 zs.length) ((.int (if -1 - c > c then -1 - c else c), .lst []) : D × D) (Zj2 (if -1 - c > c then -1 - c else c) salt (zs.map .int))) (fun s => R.ok s.2) fun d s => R.ok d := by
  unfold Z71
  simp only [asI_int, sub_int, lft_some, max_int, len_lst, List.length_map]
  rw [few_eq, if_pos (by simp), Zef _ (by omega)]
  rfl
theorem Zfs (c salt : Int) (zs : List Int) (hs : 0 ≤ salt ∧ salt ≤ 1000000000) (hl : zs.length ≤ 1000000) (hz : ∀ z ∈ zs, 0 < z ∧ z < 1073741824) : ∃ ns : List Int, Z71 [.int c, .int salt, .lst (zs.map .int)] = .ok (.lst (ns.map .int)) ∧ Below ns zs zs.length := by
  rw [Zft c salt zs hl]
  generalize (if -1 - c > c then -1 - c else c) = whole
  obtain ⟨s', e, left, ns, rfl, hb⟩ := Zf4 (I := fun i (s : D × D) => ∃ (left : Int) (ns : List Int), s = (.int left, .lst (ns.map .int)) ∧ Below ns zs i) (ds := rngD 0 zs.length) (s := ((.int whole, .lst []) : D × D)) (f := Zj2 whole salt (zs.map .int)) 0 ⟨whole, [], rfl, rfl, fun k v h => by cases h⟩ (fun i d hd s ⟨left, ns, es, hb⟩ => by
    subst es
    obtain ⟨hi, rfl⟩ := Zm4 hd
    rw [Nat.zero_add] at hb ⊢
    obtain ⟨z, hzi⟩ : ∃ z, zs[i]? = some z := ⟨_, List.getElem?_eq_getElem hi⟩
    obtain ⟨z0, z1⟩ := hz z (List.mem_of_getElem? hzi)
    exact Zj1 whole salt zs ns left i hs (by omega) hb z hzi z0 z1)
  refine ⟨ns, ?_, by rw [show 0 + (rngD 0 zs.length).length = zs.length by simp [rngD]] at hb; exact hb⟩
  rw [e]
  rfl
def Pool (d : D) : Prop := ∃ (ns : List Int) (i : Nat), d = .lst [.lst (ns.map .int), .int i]
theorem Zh3 (c salt : Int) (m : Nat) (hs : 0 ≤ salt ∧ salt ≤ 1000000000) (hm : m ≤ 1000000) : ∃ p, Zl4 [.int c, .int salt, .int m] = .ok p ∧ Pool p := by
  unfold Zl4
  have e : (List.replicate (m : Int).toNat [D.int 420]).flatten = (List.replicate m (420 : Int)).map D.int := by
    rw [Int.toNat_natCast]
    induction m with
    | zero => rfl
    | succ n ih => rw [List.replicate_succ, List.flatten_cons, ih (by omega)]; rfl
  have r : repG (.lst [.int 420]) (.int m) = some (.lst ((List.replicate m (420 : Int)).map D.int)) := by
    unfold repG
    simp only
    rw [if_pos (by refine ⟨by omega, by omega, ?_⟩; rw [szl]; simp; omega), e]
  obtain ⟨ns, e2, _⟩ := Zfs c salt (List.replicate m 420) hs (by rw [List.length_replicate]; exact hm) (fun z hz => by rw [List.eq_of_mem_replicate hz]; omega)
  simp only
  rw [few_eq, if_pos (by simp), r, lft_some, e2, call_ok, few_eq, if_pos (by simp)]
  exact ⟨_, rfl, ns, 0, rfl⟩
theorem Z5y {p : D} {m : Int} (hp : Pool p) (hm : 0 < m) : ∃ (v : Nat) (p' : D), m_draw [p, .int m] = .ok (.int v, p') ∧ (v : Int) < m ∧ Pool p' := by
  obtain ⟨ns, i, rfl⟩ := hp
  have hp' : Pool (.lst [.lst (ns.map .int), .int ((i : Int) + 1)]) := ⟨ns, i + 1, rfl⟩
  unfold m_draw
  have x1 : ixG (.lst [.lst (ns.map .int), .int i]) (.int 1) = some (.int i) := rfl
  have x0 : ∀ y, ixG (.lst [.lst (ns.map .int), y]) (.int 0) = some (.lst (ns.map .int)) := fun _ => rfl
  have xs : ∀ (y : D) (k : D -> R Unit (D × D)), R.setAt [.lst (ns.map .int), .int i] (.int 1) y k = k (.lst [.lst (ns.map .int), y]) := fun _ _ => rfl
  simp only [x1, lft_some, asL_lst, add_int, xs, x0, len_lst, lt_int, asB_bl]
  by_cases h : (i : Int) < ((ns.map D.int).length : Nat)
  · rw [decide_eq_true h, if_pos rfl]
    have hi : i < ns.length := by rw [List.length_map] at h; omega
    rw [ix_lst, Z6p (List.getElem?_eq_getElem hi), lft_some, int_int, lft_some, mod_int hm, lft_some, bind_ok]
    have h0 := Int.emod_nonneg ns[i] (show m ≠ 0 by omega)
    exact ⟨(ns[i] % m).toNat, _, by rw [Int.toNat_of_nonneg h0], by rw [Int.toNat_of_nonneg h0]; exact Int.emod_lt_of_pos _ hm, hp'⟩
  · rw [decide_eq_false h, if_neg (by simp), bind_ok]
    exact ⟨0, _, rfl, by simpa using hm, hp'⟩
theorem Zd6 {p : D} {xs : List D} (hp : Pool p) (hm : 0 < xs.length) : ∃ (x p' : D), m_pick [p, .lst xs] = .ok (x, p') ∧ x ∈ xs ∧ Pool p' := by
  unfold m_pick
  obtain ⟨v, p', e, hv, hp'⟩ := Z5y (m := xs.length) hp (by omega)
  simp only [len_lst, lft_some, e, call1e_ok, ix_lst]
  obtain ⟨x, hx, hm⟩ := Zqi (xs := xs) (i := v) (by omega) hv
  rw [hx, lft_some]
  exact ⟨x, p', rfl, hm, hp'⟩
end PL
namespace PL
open PySem L2 DM
theorem Z3z {α : Type} (e : α -> D) : ∀ xs : List α, pds (xs.map e) = xs.map fun x => pd (e x)
  | [] => by simp [pds]
  | x :: xs => by simp [pds, Z3z e xs]
theorem Zkz : ∀ xs : List D, pds xs = xs.map pd
  | [] => by simp [pds]
  | x :: xs => by simp [pds, Zkz xs]
theorem Z7t {ds : List PyData} (h : ∀ d ∈ ds, d.canLay0 = true) : PyData.canLayAll0 ds = true := by
  induction ds with
  | nil => simp [PyData.canLayAll0]
  | cons d ds ih => simp only [PyData.canLayAll0, h d List.mem_cons_self, ih fun x hx => h x (List.mem_cons_of_mem _ hx), Bool.and_self]
theorem Z9z {ds : List PyData} {n : Nat} (h : ∀ d ∈ ds, d.depth ≤ n) : PyData.depthAll ds ≤ n := by
  induction ds with
  | nil => simp [PyData.depthAll]
  | cons d ds ih =>
    have h1 := h d List.mem_cons_self
    have h2 := ih fun x hx => h x (List.mem_cons_of_mem _ hx)
    simp only [PyData.depthAll]
    omega
theorem Z7x {d : D} (h : (pd d).canLay0 = true) (h2 : (pd d).depth ≤ 64) : shp d = true := by
  unfold shp SeqAt.shaped
  rw [h, decide_eq_true h2]; rfl
theorem Zia {a b : D} (ha : shp a = true) (hb : shp b = true) : eqG a b = some (.bl (PyData.eqv (pd a) (pd b))) := by
  have : (shp a && shp b) = true := by rw [ha, hb]; rfl
  cases a <;> cases b <;> first | (unfold eqG; simp only [this, if_true]; done) | (simp only [eqG, pd, PyData.eqv, Option.some.injEq, D.bl.injEq]; rw [Bool.eq_iff_iff]; simp)
theorem Zhd {a b : D} (ha : shp a = true) (hb : shp b = true) : neG a b = some (.bl (!PyData.eqv (pd a) (pd b))) := by
  have : (shp a && shp b) = true := by rw [ha, hb]; rfl
  cases a <;> cases b <;> first | (unfold neG; simp only [this, if_true]; done) | (simp only [neG, pd, PyData.eqv, Option.some.injEq, D.bl.injEq]; rw [Bool.eq_iff_iff]; simp)
theorem Zic {a b : D} (ha : flat a = true) (hb : flat b = true) : eqF a b = PyData.eqv (pd a) (pd b) := by
  cases a <;> first | (simp [flat] at ha; done) | (cases b <;> first | (simp [flat] at hb; done) | simp [eqF, pd, PyData.eqv])
theorem Zn2 {d : D} {ds : List D} (hd : shp d = true) (hs : shp (.lst ds) = true) : inL d ds = some (ds.any fun y => PyData.eqv (pd y) (pd d)) := by
  have e2 : inP d ds = some (ds.any fun y => PyData.eqv (pd y) (pd d)) := by
    unfold inP
    rw [hd, hs, Bool.and_self, if_pos rfl, Zkz, List.any_map]
    rfl
  unfold inL inF
  by_cases h : (flat d && ds.all flat) = true
  · rw [if_pos h]
    simp only
    rw [Bool.and_eq_true, List.all_eq_true] at h
    congr 1
    rw [Bool.eq_iff_iff, List.any_eq_true, List.any_eq_true]
    exact ⟨fun ⟨x, hx, e⟩ => ⟨x, hx, by rw [← Zic (h.2 x hx) h.1]; exact e⟩, fun ⟨x, hx, e⟩ => ⟨x, hx, by rw [Zic (h.2 x hx) h.1]; exact e⟩⟩
  · rw [if_neg h]
    exact e2
theorem Zpr {d : D} {ds : List D} : inA d (.tup ds) = (inL d ds).map .bl := by
  cases d <;> rfl
theorem Zhc {d : D} {ds : List D} : Z39 d (.lst ds) = (inL d ds).map fun k => .bl (!k) := by
  cases d <;> rfl
theorem Zhb {d : D} {ds : List D} : Z39 d (.tup ds) = (inL d ds).map fun k => .bl (!k) := by
  cases d <;> rfl
theorem Zoi {ds : List D} : shp (.tup ds) = shp (.lst ds) := by
  unfold shp SeqAt.shaped
  simp only [pd, PyData.canLay0, PyData.depth]
structure Enc {α : Type} [DecidableEq α] (e : α -> D) (n : Nat) : Prop where
  ok : ∀ a, (pd (e a)).canLay0 = true
  dep : ∀ a, (pd (e a)).depth ≤ n
  eq : ∀ a b, PyData.eqv (pd (e a)) (pd (e b)) = decide (a = b)
section
variable {α : Type} [DecidableEq α] {e : α -> D} {n : Nat}
theorem Enc.up {m : Nat} (h : Enc e n) (hn : n ≤ m) : Enc e m := ⟨h.ok, fun a => Nat.le_trans (h.dep a) hn, h.eq⟩
theorem Enc.shp (h : Enc e n) (hn : n ≤ 64) (a : α) : shp (e a) = true := Z7x (h.ok a) (Nat.le_trans (h.dep a) hn)
theorem Enc.shpL (h : Enc e n) (hn : n < 64) (xs : List α) : DM.shp (.lst (xs.map e)) = true := by
  refine Z7x ?_ ?_
  · simp only [pd, PyData.canLay0, Z3z]
    exact Z7t fun d hd => by obtain ⟨x, _, rfl⟩ := List.mem_map.mp hd; exact h.ok x
  · simp only [pd, PyData.depth, Z3z]
    have : PyData.depthAll (xs.map fun x => pd (e x)) ≤ n := Z9z fun d hd => by obtain ⟨x, _, rfl⟩ := List.mem_map.mp hd; exact h.dep x
    omega
theorem Enc.eqG (h : Enc e n) (hn : n ≤ 64) (a b : α) : eqG (e a) (e b) = some (.bl (decide (a = b))) := by rw [Zia (h.shp hn a) (h.shp hn b), h.eq]
theorem Enc.neG (h : Enc e n) (hn : n ≤ 64) (a b : α) : neG (e a) (e b) = some (.bl (!decide (a = b))) := by rw [Zhd (h.shp hn a) (h.shp hn b), h.eq]
theorem Enc.any (h : Enc e n) (a : α) (xs : List α) : ((xs.map e).any fun y => PyData.eqv (pd y) (pd (e a))) = decide (a ∈ xs) := by
  rw [Bool.eq_iff_iff, List.any_map, List.any_eq_true, decide_eq_true_iff]
  constructor
  · rintro ⟨x, hx, q⟩
    simp only [Function.comp, h.eq, decide_eq_true_eq] at q
    exact q ▸ hx
  · intro hx
    exact ⟨a, hx, by simp only [Function.comp, h.eq, decide_true]⟩
theorem Enc.inL (h : Enc e n) (hn : n < 64) (a : α) (xs : List α) : inL (e a) (xs.map e) = some (decide (a ∈ xs)) := by
  rw [Zn2 (h.shp (by omega) a) (h.shpL hn xs), h.any]
theorem Enc.in_t (h : Enc e n) (hn : n < 64) (a : α) (xs : List α) : inA (e a) (.tup (xs.map e)) = some (.bl (decide (a ∈ xs))) := by rw [Zpr, h.inL hn]; rfl
theorem Enc.ni_l (h : Enc e n) (hn : n < 64) (a : α) (xs : List α) : Z39 (e a) (.lst (xs.map e)) = some (.bl (!decide (a ∈ xs))) := by rw [Zhc, h.inL hn]; rfl
theorem Enc.ni_t (h : Enc e n) (hn : n < 64) (a : α) (xs : List α) : Z39 (e a) (.tup (xs.map e)) = some (.bl (!decide (a ∈ xs))) := by rw [Zhb, h.inL hn]; rfl
theorem Enc.idx (h : Enc e n) (a : α) : ∀ xs : List α, idxD (e a) (xs.map e) = if a ∈ xs then some (xs.idxOf a) else none
  | [] => by simp [idxD, pds]
  | x :: xs => by
    have ih := h.idx a xs
    unfold idxD at ih ⊢
    rw [List.map_cons, pds, List.findIdx?_cons, h.eq]
    by_cases q : x = a
    · subst q
      simp
    · rw [decide_eq_false q, if_neg (by simp), ih]
      have qa : a ≠ x := Ne.symm q
      by_cases hm : a ∈ xs
      · rw [if_pos hm, if_pos (List.mem_cons_of_mem _ hm), List.idxOf_cons, show (x == a) = false by simpa using q]; rfl
      · rw [if_neg hm, if_neg (by simp [qa, hm])]; rfl
theorem Enc.idx_l (h : Enc e n) (hn : n < 64) {a : α} {xs : List α} (hm : a ∈ xs) : idxG (.lst (xs.map e)) [e a] = some (.int (xs.idxOf a)) := by
  unfold idxG
  simp only
  rw [h.shp (by omega), h.shpL hn, Bool.and_self, if_pos rfl, h.idx, if_pos hm]; rfl
theorem Enc.idx_t (h : Enc e n) (hn : n < 64) {a : α} {xs : List α} (hm : a ∈ xs) : idxG (.tup (xs.map e)) [e a] = some (.int (xs.idxOf a)) := by
  unfold idxG
  simp only
  rw [h.shp (by omega), Zoi, h.shpL hn, Bool.and_self, if_pos rfl, h.idx, if_pos hm]; rfl
theorem eqvAll_map (h : Enc e n) : ∀ xs ys : List α, PyData.eqvAll (pds (xs.map e)) (pds (ys.map e)) = decide (xs = ys)
  | [], [] => by simp [pds, PyData.eqvAll]
  | [], y :: ys => by simp [pds, PyData.eqvAll]
  | x :: xs, [] => by simp [pds, PyData.eqvAll]
  | x :: xs, y :: ys => by
    rw [List.map_cons, List.map_cons, pds, pds, PyData.eqvAll, h.eq, eqvAll_map h xs ys, Bool.eq_iff_iff]
    simp
theorem Enc.lst (h : Enc e n) : Enc (fun xs : List α => D.lst (xs.map e)) (n + 1) where
  ok xs := by
    simp only [pd, PyData.canLay0, Z3z]
    exact Z7t fun d hd => by obtain ⟨x, _, rfl⟩ := List.mem_map.mp hd; exact h.ok x
  dep xs := by
    simp only [pd, PyData.depth, Z3z]
    have : PyData.depthAll (xs.map fun x => pd (e x)) ≤ n := Z9z fun d hd => by obtain ⟨x, _, rfl⟩ := List.mem_map.mp hd; exact h.dep x
    omega
  eq a b := by rw [pd, pd, PyData.eqv, eqvAll_map h]
theorem Enc.tup (h : Enc e n) : Enc (fun xs : List α => D.tup (xs.map e)) (n + 1) where
  ok xs := by
    simp only [pd, PyData.canLay0, Z3z]
    exact Z7t fun d hd => by obtain ⟨x, _, rfl⟩ := List.mem_map.mp hd; exact h.ok x
  dep xs := by
    simp only [pd, PyData.depth, Z3z]
    have : PyData.depthAll (xs.map fun x => pd (e x)) ≤ n := Z9z fun d hd => by obtain ⟨x, _, rfl⟩ := List.mem_map.mp hd; exact h.dep x
    omega
  eq a b := by rw [pd, pd, PyData.eqv, eqvAll_map h]
end
theorem enc_int : Enc D.int 0 := ⟨fun a => by simp [pd, PyData.canLay0], fun a => by simp [pd, PyData.depth], fun a b => by simp only [pd, PyData.eqv]; rw [Bool.eq_iff_iff]; simp⟩
theorem Zq7 : Enc D.bl 0 := ⟨fun a => by simp [pd, PyData.canLay0], fun a => by simp [pd, PyData.depth], fun a b => by simp only [pd, PyData.eqv]; rw [Bool.eq_iff_iff]; simp⟩
theorem Z8f {α : Type} [DecidableEq α] {w : α -> Str} (ok : ∀ a, PyData.strOk (w a) = true) (inj : ∀ a b, w a = w b -> a = b) : Enc (fun a => D.str (w a)) 0 where
  ok a := by simp only [pd, PyData.canLay0]; exact ok a
  dep a := by simp [pd, PyData.depth]
  eq a b := by
    simp only [pd, PyData.eqv]
    rw [Bool.eq_iff_iff]
    simp only [beq_iff_eq, decide_eq_true_eq]
    exact ⟨inj a b, fun h => by rw [h]⟩
end PL
namespace PL
open PySem L2 DM
structure Sh (m n : Nat) (d : D) : Prop where
  lay : (pd d).canLay0 = true
  sh : (pd d).showable = true
  nd : (pd d).hasDict = false
  dep : (pd d).depth ≤ m
  len : (pd d).shown.length ≤ n
theorem Sh.up {m n m' n' : Nat} {d : D} (h : Sh m n d) (hm : m ≤ m') (hn : n ≤ n') : Sh m' n' d := ⟨h.lay, h.sh, h.nd, Nat.le_trans h.dep hm, Nat.le_trans h.len hn⟩
section
variable {β α γ ω S : Type}
@[simp] theorem tryc_ok {α : Type} (o : α -> R β ω) (a : α) (mt : Str -> Option Bool) (mS : Exn -> R Unit α) (xb : β) : R.tryc o (.ok a) mt mS xb = o a := id rfl
@[simp] theorem fin_ok {α : Type} (a : α) (o : α -> R β ω) : R.fin (.ok a) o = o a := id rfl
@[simp] theorem out_nx {S Sb Sc Sr : Type} (k : S -> R β ω) (kb : Sb -> R β ω) (kc : Sc -> R β ω) (kr : D -> Sr -> R β ω) (s : S) : R.out k kb kc kr (.nx s) = k s := id rfl
@[simp] theorem out_rt {S Sb Sc Sr : Type} (k : S -> R β ω) (kb : Sb -> R β ω) (kc : Sc -> R β ω) (kr : D -> Sr -> R β ω) (d : D) (s : Sr) : R.out k kb kc kr (.rt d s) = kr d s := id rfl
end
theorem for_first {β : Type} {α : Type} {e : α -> D} {f : D -> Unit -> R β (Step Unit)} {t : α -> Bool} {v : α -> D} : ∀ {xs : List α}, (∀ x ∈ xs, f (e x) () = .ok (if t x then .rt (v x) () else .nx ())) -> R.for' (xs.map e) () f = .ok (match xs.find? t with | some x => .rt (v x) () | none => .nx ())
  | [], _ => rfl
  | x :: xs, h => by
    rw [List.map_cons, for_cons, h x List.mem_cons_self, List.find?_cons]
    cases q : t x
    · simp only [Bool.false_eq_true, if_false, turn_nx]
      exact for_first fun y hy => h y (List.mem_cons_of_mem _ hy)
    · simp only [if_true, turn_rt]
theorem Z3t {α : Type} {e : α -> D} {g : α -> Option D} {f : D -> Unit -> R Unit (Option D × Unit)} {xs : List α} (h : ∀ x ∈ xs, f (e x) () = .ok (g x, ())) : R.fmapS f (xs.map e) () = .ok (xs.filterMap g, ()) := by
  induction xs with
  | nil => rfl
  | cons x xs ih =>
    rw [List.map_cons]
    unfold R.fmapS
    rw [h x List.mem_cons_self]
    simp only
    rw [ih fun y hy => h y (List.mem_cons_of_mem _ hy), List.filterMap_cons]
    cases g x <;> rfl
theorem bools_map (bs : List Bool) : boolsOf (bs.map D.bl) = some bs := by
  induction bs with
  | nil => rfl
  | cons b bs ih => rw [List.map_cons]; unfold boolsOf; rw [ih]; rfl
theorem any_bls (bs : List Bool) : anyG [.lst (bs.map D.bl)] = some (.bl (bs.any id)) := by
  show Option.map _ (boolsOf (bs.map D.bl)) = _
  rw [bools_map]; rfl
theorem maxN (a b : Nat) : (if (b : Int) > (a : Int) then (b : Int) else (a : Int)) = ((max a b : Nat) : Int) := by omega
theorem maxN' (a b : Nat) : (if a < b then (b : Int) else (a : Int)) = ((max a b : Nat) : Int) := by omega
theorem minN (a b : Nat) : (if (b : Int) < (a : Int) then (b : Int) else (a : Int)) = ((min a b : Nat) : Int) := by omega
theorem find_any {α : Type} (t : α -> Bool) (xs : List α) : (xs.find? t).isSome = xs.any t := by
  induction xs with
  | nil => rfl
  | cons x xs ih => rw [List.find?_cons, List.any_cons]; cases t x <;> simp [ih]
theorem Z22 {α : Type} {e : α -> D} {p : α -> Bool} {f : D -> Unit -> R Unit (Option D × Unit)} {xs : List α} (h : ∀ x ∈ xs, f (e x) () = if p x then R.ok (some (e x), ()) else R.ok (none, ())) : R.fmapS f (xs.map e) () = .ok ((xs.filter p).map e, ()) := by
  rw [Z3t (g := fun x => if p x then some (e x) else none)]
  · congr 2
    induction xs with
    | nil => rfl
    | cons x xs ih =>
      have := ih fun y hy => h y (List.mem_cons_of_mem _ hy)
      cases q : p x <;> simp [q, this]
  · intro x hx
    rw [h x hx]
    cases p x <;> rfl
theorem ints_map (ns : List Int) : intsOf (ns.map D.int) = some ns := by
  induction ns with
  | nil => rfl
  | cons b bs ih => rw [List.map_cons]; unfold intsOf; rw [ih]; rfl
theorem Zgq (ns : List Int) : Zfn [.lst (ns.map D.int)] = some (.lst ((PySem.W.sortI ns).map D.int)) := by
  show Option.map _ (intsOf (ns.map D.int)) = _
  rw [ints_map]; rfl
theorem Zfp (x : D) (b : Bool) : repG (.lst [x]) (.int (if b = true then 1 else 0)) = some (.lst (if b = true then [x] else [])) := by
  cases b <;> simp [repG, szl]
end PL
namespace PL
open PySem L2 DM
def Z7q : Nat -> List D -> List D
  | _, [] => []
  | n, d :: ds => .tup [.int (n : Nat), d] :: Z7q (n + 1) ds
theorem Zid (n : Nat) (ds : List D) : (List.range' n ds.length).zipWith (fun i d => D.tup [.int (i : Nat), d]) ds = Z7q n ds := by
  induction ds generalizing n with
  | nil => rfl
  | cons d ds ih => rw [List.length_cons, List.range'_succ, List.zipWith_cons_cons, ih]; rfl
theorem Zb5 (ds : List D) : Z6q ds = Z7q 0 ds := by
  unfold Z6q
  rw [List.range_eq_range', Zid]
theorem Zjd {α : Type} {e : α -> D} {p : D} {xs : List α} (hp : Pool p) (hm : 0 < xs.length) : ∃ (x : α) (p' : D), m_pick [p, .lst (xs.map e)] = .ok (e x, p') ∧ x ∈ xs ∧ Pool p' := by
  obtain ⟨d, p', h1, h2, h3⟩ := Zd6 (xs := xs.map e) hp (by rw [List.length_map]; exact hm)
  obtain ⟨x, hx, rfl⟩ := List.mem_map.mp h2
  exact ⟨x, p', h1, hx, h3⟩
theorem Zgv (n : Nat) : (rngD 0 n).length = n := by simp [rngD]
theorem Zb1 {β α : Type} {e : α -> D} {f : D -> Unit -> R β (Step Unit)} {xs : List α} (h : ∀ i x, xs[i]? = some x -> f (.tup [.int (i : Nat), e x]) () = .ok (.nx ())) : R.for' (Z6q (xs.map e)) () f = .ok (.nx ()) := by
  refine Zb0 fun d hd => ?_
  obtain ⟨i, x, hx, rfl⟩ := Zf6 hd
  rw [List.getElem?_map] at hx
  cases hi : xs[i]? with
  | none => rw [hi] at hx; cases hx
  | some c =>
    rw [hi] at hx
    obtain rfl : e c = x := Option.some.inj hx
    exact h i c hi
@[simp] theorem after_ex {β S ω : Type} (x : Exn) (b : β) (k : S -> R β ω) (kr : D -> S -> R β ω) : R.after (.ex x b) k kr = .ex x b := id rfl
end PL
namespace HH
open PySem PySem.Spec PyProof.Rows L2 DL DM DX
theorem Zps : ∀ v, in0 v = intV v := fun v => by cases v <;> rfl
theorem Zpt (o : Obj) : il0 o = intL o := by
  unfold il0 intL
  have e : (in0 : Value -> Bool) = intV := funext Zps
  rw [e] <;> rfl
theorem nl_ok : ∀ {K : Fg}, nl K = true -> noL K = true
  | [], _ => rfl
  | p :: r, h => by
    unfold nl at h
    rw [Zpt] at h
    unfold noL
    split at h
    · cases h
    · rename_i e
      first
        | (rw [e]; exact nl_ok h)
        | exact nl_ok h
theorem Zkw {bmB : List Value} : ∀ {l : List Value}, rf0 bmB l = true -> Z85 bmB l = true
  | [], h => h
  | v :: r, h => by
    cases v with
    | ref a => exact Zkw (l := r) h
    | _ => exact h
theorem sB_ok {K : Fg} {C : Addr} {m : Str} (h : sB K C m = true) : PySem.W.findCls K (.ref C) (.type "type") m = some (.get (.builtin "staticmethod.__get__") (.ref (sA K C m)) .none (.ref C)) := by
  unfold sB at h
  unfold sA
  split at h
  · rename_i e
    simp only [Bool.and_eq_true, decide_eq_true_eq] at h
    obtain ⟨⟨rfl, rfl⟩, rfl⟩ := h
    rw [e]
  · cases h
theorem rB_ok {K : Fg} {p : Addr} {T : String} (h : rB K p T = true) : PySem.W.recIn K p T = some (.ref (rA K p T) :: rR K p T) := by
  unfold rB at h
  unfold rA rR
  split at h
  · rename_i e; rw [e]
  · cases h
theorem Zn6 {K : Fg} {f : Addr} {x q : Str} {st : Stmt} {dvs : List V} (e : fnU K f = fv0 x q st) (c : fnB K f q dvs = true) : FunD K x q (defArgs st) (defBody st) (defScope st) dvs [] f (fdA K f) := by
  obtain ⟨kp, c2⟩ := Bool.and_eq_true_iff.mp c
  unfold fnU at e
  unfold fdA
  cases l : K.lookup f with
  | none => rw [l] at c2; cases c2
  | some o =>
    obtain ⟨oc, od, dt, osl⟩ := o
    rw [l] at c2 e
    cases dt with
    | func fd =>
      obtain ⟨n1, n2, n3, n4, n5, n6, n7, n8, n9, n10, n11, n12, n13, n14, n15⟩ := fd
      have e2 : (some (n1, n2, n3, n4, n5, n6, n7.map (·.1), n15) : FnU) = some (x, q, defArgs st, .stmts (defBody st), defScope st, mainGlobals, [], builtinsNs) := e
      simp only [Option.some.injEq, Prod.mk.injEq, List.map_eq_nil_iff] at e2
      obtain ⟨h1, h2, h3, h4, h5, h6, h7, h8⟩ := e2
      subst h1 h2 h3 h4 h5 h6 h7 h8
      obtain ⟨k1, k2⟩ := Bool.and_eq_true_iff.mp (show (PySem.W.codeIn K n13 n2 && He.dflB K n8 dvs) = true from c2)
      exact ⟨⟨oc, od, n8, n9, n10, n11, n12, n13, n14, osl, rfl, l, k1, He.dflB_ok k2, .inl rfl⟩, kp⟩
    | _ => cases c2
theorem fun_of {K : Fg} {f : Addr} {x q : Str} {st : Stmt} (e : fnU K f = fv0 x q st) (c : fnB K f q [] = true) : Fun K x q st f (fdA K f) := by
  have F := Zn6 e c
  obtain ⟨oc, od, dV, kV, doc, pm, an, cdv, ct, osl, h1, h2, h3, h4, h5⟩ := F.ex
  have hd : dV = .none := by
    rcases h4 with ⟨_, h⟩ | ⟨h, _⟩
    · exact h
    · exact absurd rfl h
  subst hd
  exact ⟨⟨oc, od, kV, doc, pm, an, cdv, ct, osl, h1, h2, h3⟩, F.kp⟩
structure KLk (K : Fg) (x q : Str) (st : Stmt) (f cc cda Dc : Addr) (file : Str) : Prop where
  fn : ∃ oc od doc pm an ct osl, K.lookup f = some ⟨oc, od, .func (PySem.W.ksFn x q (defArgs st) (defBody st) (defScope st) .none .none doc pm an (.ref cda) ct cc), osl⟩
  code : PySem.W.codeIn K (.ref cda) q = true
  cell : ∃ o, K.lookup cc = some o ∧ o.data = .cell (some (.ref Dc))
  cobj : ∃ o vs z tf, K.lookup cda = some o ∧ o.data = .fields vs ∧ vs[2]? = some (.str z tf) ∧ (file == z) = true
  cls : ∃ cd, PySem.W.clsIn K Dc = some cd
theorem klk_of {K : Fg} {f Dc : Addr} {x q file : Str} {st : Stmt} (e : fnU K f = fv1 x q st) (c : kfB K f Dc q file = true) : KLk K x q st f (ccA K f) (cdA K f) Dc file := by
  obtain ⟨c1, c⟩ := Bool.and_eq_true_iff.mp c
  obtain ⟨c2, c⟩ := Bool.and_eq_true_iff.mp c
  obtain ⟨c3, c⟩ := Bool.and_eq_true_iff.mp c
  obtain ⟨c4, c5⟩ := Bool.and_eq_true_iff.mp c
  refine ⟨?_, c2, ?_, ?_, Option.isSome_iff_exists.mp c5⟩
  · unfold fnU at e
    unfold ccA cdA fdA
    cases l : K.lookup f with
    | none => rw [l] at c1; cases c1
    | some o =>
      obtain ⟨oc, od, dt, osl⟩ := o
      rw [l] at c1 e
      cases dt with
      | func fd =>
        obtain ⟨n1, n2, n3, n4, n5, n6, n7, n8, n9, n10, n11, n12, n13, n14, n15⟩ := fd
        have e2 : (some (n1, n2, n3, n4, n5, n6, n7.map (·.1), n15) : FnU) = some (x, q, defArgs st, .stmts (defBody st), defScope st, mainGlobals, [("__class__" : Str)], builtinsNs) := e
        simp only [Option.some.injEq, Prod.mk.injEq] at e2
        obtain ⟨h1, h2, h3, h4, h5, h6, h7, h8⟩ := e2
        subst h1 h2 h3 h4 h5 h6 h8
        match n7, h7, c1, c2, c3, c4, l with
        | [(y, a)], h7, c1, c2, c3, c4, l =>
          have hy : y = ("__class__" : Str) := by
            have := List.cons.inj h7
            exact this.1
          cases n8 <;> first | (cases c1; done) | skip
          cases n9 <;> first | (cases c1; done) | skip
          cases n13 <;> first | (cases c1; done) | skip
          exact ⟨oc, od, n10, n11, n12, n14, osl, by rw [hy] <;> rfl⟩
        | [], h7, _, _, _, _, _ => exact nomatch h7
        | _ :: _ :: _, h7, _, _, _, _, _ => exact nomatch (List.cons.inj h7).2
      | _ => cases c1
  · cases l : K.lookup (ccA K f) with
    | none => rw [l] at c3; cases c3
    | some o =>
      obtain ⟨oc, od, dt, osl⟩ := o
      rw [l] at c3
      cases dt with
      | cell v =>
        cases v with
        | none => cases c3
        | some v =>
          cases v with
          | ref d =>
            have : d = Dc := of_decide_eq_true c3
            subst this
            exact ⟨_, rfl, rfl⟩
          | _ => cases c3
      | _ => cases c3
  · cases l : K.lookup (cdA K f) with
    | none => rw [l] at c4; cases c4
    | some o =>
      obtain ⟨oc, od, dt, osl⟩ := o
      rw [l] at c4
      cases dt with
      | fields vs =>
        have c4 : (match vs[2]? with | some (Value.str z _) => (file == z) | _ => false) = true := c4
        cases v : vs[2]? with
        | none => rw [v] at c4; cases c4
        | some u =>
          rw [v] at c4
          cases u with
          | str z t => exact ⟨_, vs, z, t, rfl, rfl, v, c4⟩
          | _ => cases c4
      | _ => cases c4
section
variable {P : Program} {w : World} {K : Fg} {mg : Str -> Option Value} {h : Heap}
theorem Zq6 {C : Addr} {bmB : List Value} {newId : String} (c : exB K C bmB newId = true) : ∃ nm q N bs bm sn sub ab col dd k0 k1 k2 k3 k5, K.lookup C = some (excClassObj nm q C N bs bm true sn sub ab col dd k0 k1 k2 k3 k5 newId) ∧ Z85 bmB bm = true := by
  unfold exB at c
  split at c
  · rename_i t dd cd sl l
    split at c
    · rename_i C' bm k0 k1 k2 k3 n k5 hm hs
      simp only [Bool.and_eq_true, decide_eq_true_eq, Bool.not_eq_true'] at c
      obtain ⟨⟨⟨⟨⟨rfl, rfl⟩, rfl⟩, hdel⟩, hdct⟩, hr0⟩ := c
      have hr := Zkw hr0
      obtain ⟨nm, bs, mro, ns, qn, hd, sn, sub, ab, col, del⟩ := cd
      dsimp only at hm hdel hdct
      subst hm hdel hdct
      obtain ⟨sl⟩ := sl
      dsimp only at hs
      subst hs
      exact ⟨nm, qn, ns, bs, bm, sn, sub, ab, col, dd, k0, k1, k2, k3, k5, l, hr⟩
    · cases c
  · cases c
structure ErF (K : Fg) (C fI : Addr) (B newId i : String) (bmB : List Value) : Prop where
  cl : exB K C bmB newId = true
  sB : PySem.W.subIn K (.ref C) (.type B) = some true
  su : PySem.W.ks_superIn K C C "__init__" = some (some (.builtin i))
  sa : PySem.W.findIn K (.ref C) "__setattr__" = some (some (.builtin "object.__setattr__"))
  iC : PySem.W.findIn K (.ref C) "__init__" = some (some (.ref fI))
  tC : PySem.W.typeIn K (.ref fI) = some (.type "function")
  kC : PySem.W.keepIn K (.ref C) = true
  sb : PySem.W.subIn K (.ref C) (.ref C) = some true
  eC : PySem.W.subIn K (.ref C) (.type "BaseException") = some true
  tyC : PySem.W.typeIn K (.ref C) = some (.type "type")
theorem erB_ok {C fI : Addr} {B newId i : String} {bmB : List Value} (c : erB K C fI B newId i bmB = true) : ErF K C fI B newId i bmB := by
  unfold erB at c
  simp only [Bool.and_eq_true, decide_eq_true_eq] at c
  obtain ⟨h1, h2, h3, h4, h5, h6, h7, h8, h9, h10⟩ := c
  exact ⟨h1, h2, h3, h4, h5, h6, h7, h8, h9, h10⟩
section
open PySem.W
variable {B newId i : String} {bmB : List Value} {x p r qn : Str} {C fI cda cc : Addr} {st : Stmt} {p0 p1 p2 q1 q2 q3 q4 q4' q5 q6 q7 q8 q9 q10 r7 r8 r9 r10 : Pos}
theorem err_of1 (BF : BaseF B newId i bmB) (X : K.In h) (G : h.Ns mainGlobals mg) (aC : nsIn K mainGlobals x = some (some (.ref C))) (E : ErF K C fI B newId i bmB) (n1 : findIn K (.ref C) p = some none) (top : nsIn K cStatics "thirdparty.any" = some none) (hs : nsIn K mainGlobals "super" = some none)
    (L : KLk K "__init__" qn st fI cc cda C P.main.file) (ha : defArgs st = pars [("self", p0), (p, p1)]) (hb : defBody st = bd1 p q1 q2 q3 q4 q5 q6 q7 q8 q9 q10) (hc : defScope st = scp [p]) (tp : (P.main.scope.names.lookup ("super" : Str)).isSome = false)
    (s1 : (scp [p]).names.lookup ("super" : Str) = some .globalImplicit) (s2 : (scp [p]).names.lookup ("__class__" : Str) = some .free) (s3 : (scp [p]).names.lookup ("self" : Str) = some .local) (s4 : (scp [p]).names.lookup p = some .local) (s5 : (p == ("__debug__" : Str)) = false) (s6 : p ≠ "self")
    (hbd : ∀ (doc pm ct : Value) (an : Option Addr) (us : List Value), us.length = 2 -> bindArgs (ksFn "__init__" qn (pars [("self", p0), (p, p1)]) (bd1 p q1 q2 q3 q4 q5 q6 q7 q8 q9 q10) (scp [p]) .none .none doc pm an (.ref cda) ct cc) ⟨us, []⟩ = pure ((["self", p] : List Str).zip us)) (hev : Hev qn (scp [p]) fI cda cc q1 q2 q3 q5 [.Name p q4]) : ErrC P K mg x [p] := by
  obtain ⟨nm, q, N, bs, bm, sn, sub, ab, col, dd, k0, k1, k2, k3, k5, lC, rb⟩ := Zq6 E.cl
  obtain ⟨oc, od, doc, pm, an, ct, osl, lf⟩ := L.fn
  obtain ⟨oce, lc, ec⟩ := L.cell
  obtain ⟨ocd, vs, file, tf, ld, ed, e2, fe⟩ := L.cobj
  rw [ha, hb, hc] at lf
  exact Zn8 BF X G aC lC rb E.sB E.su E.sa n1 E.iC E.tC E.kC E.sb E.eC E.tyC top hs lf L.code lc ec ld ed e2 fe tp s1 s2 s3 s4 s5 s6 (L2.Binds.all fun us hl => hbd doc pm ct an us hl) hev
end
theorem Zio {f : Value -> D -> Bool} (hf : ∀ u d, f u d = true -> DK K u d) : ∀ {us : List Value} {ds : List D}, all2 f us ds = true -> DKs K us ds
  | [], [], _ => Zqb
  | [], _ :: _, h => by cases h
  | _ :: _, [], h => by cases h
  | u :: us, d :: ds, h => by
    obtain ⟨h1, h2⟩ := Bool.and_eq_true_iff.mp (show (f u d && all2 f us ds) = true from h)
    exact Znb (hf u d h1) (Zio hf h2)
theorem Zh0 : ∀ (n : Nat) (u : Value) (d : D), relD n K u d = true -> DK K u d
  | 0, _, _, h => by cases h
  | n + 1, u, d, h => by
    cases u <;> cases d <;> first | (cases h; done) | skip
    · exact Zqa
    · rw [of_decide_eq_true (show decide (_ = _) = true from h)]; exact Zrr
    · rw [of_decide_eq_true (show decide (_ = _) = true from h)]; exact Zqc
    · rw [of_decide_eq_true (show decide (_ = _) = true from h)]; exact Zq9
    · rename_i a ds
      have h : (match K.lookup a with
        | some ⟨.type t, none, .seq its _, _⟩ => decide (t = "tuple") && (Nat.ble its.toList.length 1000 && all2 (relD n K) its.toList ds)
        | _ => false) = true := h
      split at h
      · rename_i t its m sl l
        simp only [Bool.and_eq_true, decide_eq_true_eq] at h
        obtain ⟨rfl, h2, h3⟩ := h
        refine Zq8 (its := its.toList) (n := m) (sl := sl) (by rw [l]) (Zio (Zh0 n) h3) h2
      · cases h
theorem glob_of {x : Str} {d : D} (X : K.In h) (G : h.Ns mainGlobals mg) (e : PySem.W.nsIn K mainGlobals x = some (some (gV K x))) (c : relD 6 K (gV K x) d = true) : GlobD K mg x d := (Zh0 6 _ _ c).glob X G e
theorem Zep {P : Params} : ∀ {l : List DictEntry} {ks : List Str}, l.map He.keyOf = He.keysIn P ks -> l.map litK = ks
  | [], [], _ => rfl
  | [], _ :: _, h => by cases h
  | e :: r, [], h => by cases h
  | e :: r, k :: ks, h => by
    have h1 : He.keyOf e :: r.map He.keyOf = some (k, PyData.keyHash P k) :: He.keysIn P ks := h
    injection h1 with h2 h3
    rw [List.map_cons, Zep h3]
    unfold He.keyOf at h2
    unfold litK
    split at h2
    · rename_i x t q
      have h4 := (Prod.mk.inj (Option.some.inj h2)).1
      rw [q, h4]
    · cases h2
theorem tab_of {x : Str} {a : Addr} {ks : List Str} (d : He.dicW K a = some (He.keysIn w.params ks)) : ∃ es n, KDict K w a es n ∧ es.toList.map litK = ks := by
  obtain ⟨es, n, k⟩ := He.dicW_ok d
  refine ⟨es, n, k, ?_⟩
  unfold He.dicW at d
  rw [k.at_] at d
  have d : (match decide (("dict" : String) = "dict") && ((#[] : Array (Option Value)).isEmpty && !(a == sysModules)) with
      | true => some (es.toList.map He.keyOf)
      | false => none) = some (He.keysIn w.params ks) := d
  split at d
  · exact Zep (Option.some.inj d)
  · cases d
theorem kdc_of {x : Str} {ks : List Str} (X : K.In h) (G : h.Ns mainGlobals mg) (e : PySem.W.nsIn K mainGlobals x = some (some (.ref (gA K x)))) (d : He.dicW K (gA K x) = some (He.keysIn w.params ks)) : KdC K w mg x ks := by
  obtain ⟨es, n, k, hk⟩ := tab_of (x := x) d
  exact Zrk (es := es.toList) X G e (by rw [k.at_]) k.lit k.low hk
end
section
variable {fa : List (List (Fg -> Bool))} {fn : List FD} {ts : List Tb} {w : World} {K : Fg}
theorem Says.b (c : Says fa fn ts w K) {f : Fg -> Bool} {l : List (Fg -> Bool)} (i j : Nat) (h : fa[i]? = some l) (h2 : l[j]? = some f) : f K = true := by
  have c1 : (fa.all fun c => c.all fun f => f K) = true := congrArg (fun z : Al => z.1) c
  have c2 := List.all_eq_true.mp c1 l (List.mem_of_getElem? h)
  exact List.all_eq_true.mp c2 f (List.mem_of_getElem? h2)
theorem Says.d (c : Says fa fn ts w K) {p : Prop} {d : Decidable p} {l : List (Fg -> Bool)} (i j : Nat) (h : fa[i]? = some l) {f : Fg -> Bool} (h2 : l[j]? = some f) (e : f K = decide p) : p := of_decide_eq_true (e ▸ c.b i j h h2)
theorem Says.f (c : Says fa fn ts w K) {d : FD} (i : Nat) (h : fn[i]? = some d) : fnU K (d.at_ K) = d.v := by
  have e : fn.map (fun d => fnU K (d.at_ K)) = fn.map (·.v) := congrArg (fun z : Al => z.2.1) c
  have e2 : (fn.map fun d => fnU K (d.at_ K))[i]? = (fn.map (·.v))[i]? := by rw [e]
  rw [List.getElem?_map, List.getElem?_map, h] at e2
  exact Option.some.inj e2
theorem Says.t (c : Says fa fn ts w K) {t : Tb} (i : Nat) (h : ts[i]? = some t) : He.dicW K (t.1 K) = some (He.keysIn w.params t.2) := by
  have e : ts.map (fun t => He.dicW K (t.1 K)) = ts.map fun t => some (He.keysIn w.params t.2) := congrArg (fun z : Al => z.2.2) c
  have e2 : (ts.map fun t => He.dicW K (t.1 K))[i]? = (ts.map fun t => some (He.keysIn w.params t.2))[i]? := by rw [e]
  rw [List.getElem?_map, List.getElem?_map, h] at e2
  exact Option.some.inj e2
end
theorem walkH {l : PySem.W.OpenLaw} {n k : Nat} {q : Program} {loose : List Str} {XP : (Str -> Option Value) -> Heap -> Prop} {YP : World -> Heap -> Prop} {d : DefRec} {mf : List D -> R Unit D} {x : Str}
    (hn : l.most = some n) (hn2 : n ≤ sizeLine) (hdf : d.params.defaults = []) (hr : Room k callerA)
    (hG : ∀ ns : List Int, ns.length ≤ n -> mf [.lst (ns.map .int)] = .ok (.bl true))
    (F : ∀ (w : World) (mg : Str -> Option Value) (fa : Addr) (h : Heap), YP w h -> h.Ns mainGlobals mg -> mg d.name = some (.ref fa) ->
      ∃ K : Fg, K.In h ∧ noL K = true ∧ ∃ fd : FuncData, (∀ (s : Shared) (u : Value), BindsTo s fd ⟨[u], []⟩ [(x, u)]) ∧
        ∀ base : Heap, K.In base -> base.Ns mainGlobals mg -> FnG l.prog w K mg base (L2.CX l.prog w) k fa fd [x] (spM K (mk0 1) none (Lp mf))) :
    PySem.W.WalkO q loose XP YP l.row.toRowW d [] (fun f vs => PySem.call f vs) := by
  refine Att.attach_call hn hdf fun w s₀ s₁ mg mb fa o pm cd doc a vs ns T Y ho hd hcd hmg hobj hints hlen hg => ?_
  obtain ⟨K, KX, hL, fd, hb, hF⟩ := F w mg fa _ Y T.T.g hmg
  refine Zrp KX T.T.g T.T.b T.T.builtins T.T.nolimit hg hobj hints (Nat.le_trans hlen hn2) hr (Zjl hL hints KX hobj) hF hb (fun ob => ?_) fun H e s' hc => ?_
  · exact Zpj (Or.inl (Or.inr ⟨ob, Zd5 a ob ns⟩)) hL (hG ns hlen)
  · obtain ⟨_, _, _, _, _, _, _, _, _, _, _, _, z⟩ := hc
    exact z
end HH
namespace DM
open PySem PySem.Spec PyProof.Rows L2 DL
end DM
namespace DM
open PySem PySem.Spec PyProof.Rows L2 DL
end DM
namespace DM
open PySem PySem.Spec PyProof.Rows L2 DL
def slK : Option (List Str) -> D -> Sl
  | none, d => .fz d
  | some fs, d => .ow none d fs
inductive PR (K : PySem.W.Frag) (B : Bs) (F H : Hp) (σ : L2.St) (env : Fm) : List V -> List D -> List (Option (List Str)) -> List Addr -> Prop where
  | nil : PR K B F H σ env [] [] [] []
  | f {v d vs ds ks S} : Dr K F v d -> PR K B F H σ env vs ds ks S -> PR K B F H σ env (v :: vs) (d :: ds) (none :: ks) S
  | o {p d fs vs ds ks S1 S} : Own K F H p d fs S1 -> (∀ a ∈ S1, F a = none ∧ (B.H0 a = none ∨ B.ps a) ∧ Nob K F H σ env a) -> (∀ a ∈ S1, a ∉ S) -> PR K B F H σ env vs ds ks S -> PR K B F H σ env (.ref p :: vs) (d :: ds) (some fs :: ks) (S1 ++ S)
section
variable {K : PySem.W.Frag} {B : Bs} {F H : Hp} {σ : L2.St} {env : Fm} {vs : List V} {ds : List D} {ks : List (Option (List Str))} {S : List Addr}
theorem PR.base (h : PR K B F H σ env vs ds ks S) : ∀ a ∈ S, B.H0 a = none ∨ B.ps a := by
  induction h with
  | nil => exact fun a ha => nomatch ha
  | f _ _ ih => exact ih
  | o _ h2 _ _ ih =>
    intro a ha
    rcases List.mem_append.mp ha with z | z
    · exact (h2 a z).2.1
    · exact ih a z
theorem PR.rebase {B' : Bs} (h : PR K B F H σ env vs ds ks S) (hb : ∀ a, B.H0 a = none ∨ B.ps a -> B'.H0 a = none ∨ B'.ps a) : PR K B' F H σ env vs ds ks S := by
  induction h with
  | nil => exact .nil
  | f h1 _ ih => exact .f h1 ih
  | o h1 h2 h3 _ ih => exact .o h1 (fun a ha => ⟨(h2 a ha).1, hb a (h2 a ha).2.1, (h2 a ha).2.2⟩) h3 ih
theorem Zmm {a : Addr} {i : Nat} {v : Option V} {y : Sl} (s : SR K B F H σ env) (h : Nob K F H σ env a) (hy : ∀ t d fs p S, y = .ow t d fs -> v = some (.ref p) -> Own K F H p d fs S -> a ∉ S) : Nob K F H (σ.set i v) (fput env i y) a := fun j t d fs p S e1 e2 ow ha => by
  by_cases hij : i = j
  · subst hij
    have hl : i < env.length := by have := Z36 e1 (fun z => nomatch z); rw [Z1a] at this; exact this
    rw [Z1o hl] at e1
    rw [List.getElem?_set_self (by rw [s.len]; exact hl)] at e2
    exact hy t d fs p S e1 (Option.some.inj e2) ow ha
  · rw [Zz _ _ hij] at e1
    rw [getσ hij] at e2
    exact h j t d fs p S e1 e2 ow ha
theorem PR.put0 {i : Nat} {v : Option V} {y : Sl} (s : SR K B F H σ env) (h : PR K B F H σ env vs ds ks S) (hy : ∀ t d fs p S', y = .ow t d fs -> v = some (.ref p) -> Own K F H p d fs S' -> ∀ a ∈ S, a ∉ S') : PR K B F H (σ.set i v) (fput env i y) vs ds ks S := by
  induction h with
  | nil => exact .nil
  | f h1 _ ih => exact .f h1 (ih hy)
  | o h1 h2 h3 _ ih => exact .o h1 (fun a ha => ⟨(h2 a ha).1, (h2 a ha).2.1, Zmm s (h2 a ha).2.2 fun t d fs p S' e1 e2 e3 => hy t d fs p S' e1 e2 e3 a (List.mem_append_left _ ha)⟩) h3 (ih fun t d fs p S' e1 e2 e3 a ha => hy t d fs p S' e1 e2 e3 a (List.mem_append_right _ ha))
theorem PR.inv {k : Option (List Str)} (h : PR K B F H σ env vs ds (k :: ks) S) : ∃ v vs' d ds', vs = v :: vs' ∧ ds = d :: ds' := by
  cases h with
  | f => exact ⟨_, _, _, _, rfl, rfl⟩
  | o => exact ⟨_, _, _, _, rfl, rfl⟩
theorem PR.put {v : V} {d : D} {k : Option (List Str)} (i : Nat) (s : SR K B F H σ env) (h : PR K B F H σ env (v :: vs) (d :: ds) (k :: ks) S) : SR K B F H (σ.set i (some v)) (fput env i (slK k d)) ∧ ∃ S', PR K B F H (σ.set i (some v)) (fput env i (slK k d)) vs ds ks S' := by
  cases h with
  | f h1 h2 => exact ⟨s.setF h1, _, h2.put0 s fun _ _ _ _ _ e => nomatch e⟩
  | @o p _ fs _ _ _ S1 S2 h1 h2 h3 h4 =>
    refine ⟨s.setO ⟨p, S1, rfl, h1, fun a ha => ⟨(h2 a ha).1, (h2 a ha).2.1⟩, fun ft hf a ha => (h2 a ha).2.2.to ft hf⟩, _, h4.put0 s fun t d' fs' q S' e1 e2 e3 a ha hb => ?_⟩
    cases e1
    cases e2
    rw [Z2w e3 (Ex.refl _) h1] at hb
    exact h3 a hb ha
end
section
variable (X : Cx) (K : PySem.W.Frag) (E : XE) {β γ : Type} (xF : Fm) (xb : β)
def AVP (V : D -> Fm) (w : D) (ks : List (Option (List Str))) (es : List Expr) (c : (List D -> D -> R β γ) -> R β γ) : Prop := X.K = K ∧ ∀ B F H σ Q k (G : R β γ -> Prop), SR K B F H σ (V w) -> (∀ w, Wk (V w) xF) -> Gx K B E F σ xF xb G ->
    (∀ ds w' vs S F' H', G (k ds w') -> Ex F F' -> SR K B F' H' σ (V w') -> PR K B F' H' σ (V w') vs ds ks S -> Q vs H') -> G (c k) -> taC X es σ H Q
end
section
variable {X : Cx} {K : PySem.W.Frag} {E : XE} {β γ : Type} {xF : Fm} {xb : β} {V : D -> Fm} {w : D} {e : Expr} {es : List Expr} {ks : List (Option (List Str))} {c1 : (D -> R β γ) -> R β γ}
theorem Ze1 (hK : X.K = K := by rfl) : AVP X K E xF xb V w [] [] (fun (k : List D -> D -> R β γ) => k [] w) :=
  ⟨hK, fun B F H σ Q k G s wk gx hk hG => ⟨_, pa_nil, hk [] w [] [] F H hG (Ex.refl F) s .nil⟩⟩
theorem Znh {c2 : (List D -> D -> R β γ) -> R β γ} (ha : AE X K E xF xb (V w) e c1) (hr : AVP X K E xF xb V w ks es c2) (hs : starEach (e :: es) X.env = (false, eval e X.env) :: starEach es X.env := by rfl) :
    AVP X K E xF xb V w (none :: ks) (e :: es) (fun k => c1 fun d => c2 fun ds w' => k (d :: ds) w') :=
  ⟨ha.1, fun B F H σ Q k G s wk gx hk hG => ⟨_, pa_cons pe_C pa_C hs, ha.2 B F H σ _ _ G s (wk w) gx (fun d v F1 H1 h1 e1 _ s1 d1 =>
    hr.2 B F1 H1 σ _ _ G s1 wk (gx.mono e1) (fun ds w' vs S F2 H2 h2 e2 s2 p2 => hk (d :: ds) w' (v :: vs) S F2 H2 h2 (e1.trans e2) s2 (.f (d1.mono e2) p2)) h1) hG⟩⟩
theorem Zng {fs : List Str} {c2 : (List D -> D -> R β γ) -> R β γ} (ha : AN X K E xF xb (V w) fs e c1) (hr : AVP X K E xF xb V w ks es c2) (hs : starEach (e :: es) X.env = (false, eval e X.env) :: starEach es X.env := by rfl) :
    AVP X K E xF xb V w (some fs :: ks) (e :: es) (fun k => c1 fun d => c2 fun ds w' => k (d :: ds) w') :=
  ⟨ha.1, fun B F H σ Q k G s wk gx hk hG => ⟨_, pa_cons pe_C pa_C hs, ha.2 B F H σ _ _ G s (wk w) gx (fun d v F1 H1 h1 e1 _ s1 d1 => by
    obtain ⟨p, S1, rfl, o1, o2, o3⟩ := d1
    obtain ⟨ft, hf⟩ := s1.own
    refine hr.2 (B.at F1 H1 (V w) ft) F1 H1 σ _ _ G (s1.rebase hf) wk ⟨gx.no, fun x hx cc dd F' H' e' s' => gx.ex x hx cc dd F' H' (e1.trans e') (s1.unbase hf (fun _ _ z => z) s')⟩ (fun ds w' vs S F2 H2 h2 e2 s2 p2 => ?_) h1
    have s3 := s1.unbase hf (fun _ _ z => z) s2
    have hb : ∀ a, (B.at F1 H1 (V w) ft).H0 a = none ∨ (B.at F1 H1 (V w) ft).ps a -> B.H0 a = none ∨ B.ps a := fun a z => by
      rcases z with z | z
      · exact s1.new_b z
      · exact (hf.owned_b z).2.2
    have off : ∀ a ∈ S1, (∃ u, H1 a = some u ∧ H2 a = some u) ∧ F2 a = none ∧ Nob K F2 H2 σ (V w') a := fun a ha => by
      obtain ⟨u, hu⟩ := o1.some a ha
      obtain ⟨q1, q2, q3⟩ := s2.off (p := a) (o := u) hu (o2 a ha).1 (o3 ft hf a ha)
      exact ⟨⟨u, hu, q1⟩, q2, Nob.of s2 q3⟩
    refine hk (d :: ds) w' (.ref p :: vs) (S1 ++ S) F2 H2 h2 (e1.trans e2) s3 (.o (o1.congr e2 fun a ha => ?_) (fun a ha => ⟨(off a ha).2.1, (o2 a ha).2, (off a ha).2.2⟩) (fun a ha hS => ?_) (p2.rebase hb))
    · obtain ⟨⟨u, z1, z2⟩, _⟩ := off a ha
      rw [z1, z2]
    · obtain ⟨u, hu⟩ := o1.some a ha
      rcases p2.base a hS with z | z
      · have z : H1 a = none := z
        rw [hu] at z; cases z
      · exact o3 ft hf a ha z) hG⟩⟩
end
section
variable {X : Cx} {K : PySem.W.Frag} {E : XE} {β ω : Type} {κ : Kt β ω} {env : Fm} {pos : Pos} {rest : List Stmt} {V : D -> Fm} {w0 : D}
theorem Zkm {x y : Str} {a b : Expr} {k1 k2 : Option (List Str)} {cs : (List D -> D -> R β ω) -> R β ω} {px py pt pt2 : Pos} {kt kk : Nat} {m : D -> D -> D -> R β ω} (i j : Nat) (hV : V w0 = env) (xb : β) (ha : AVP X K E (κ.fx xb) xb V w0 [k1, k2] [a, b] cs) (hx : ∀ w, Wk (V w) (κ.fx xb))
    (hr : ∀ u v w, AB X K E κ (fput (fput (V w) i (slK k1 u)) j (slK k2 v)) rest (m u v w)) (hc : X.calm = true) (hN : X.N.Nodup)
    (hlx : X.env.scope.names.lookup x = some .local := by rfl) (hly : X.env.scope.names.lookup y = some .local := by rfl) (hij : i ≠ j := by decide) (hi : X.N[i]? = some x := by rfl) (hj : X.N[j]? = some y := by rfl)
    (hw : swappedStores [.Tuple [.Name x px, .Name y py] kt pt] (.Tuple [a, b] kk pt2) X.env = pure (some [x, y]) := by rfl) (hs : swapsWithSole [.Tuple [.Name x px, .Name y py] kt pt] (.Tuple [a, b] kk pt2) pos.line X.env = pure false := by rfl) :
    AB X K E κ env (.Assign [.Tuple [.Name x px, .Name y py] kt pt] (.Tuple [a, b] kk pt2) pos :: rest) (cs fun ds w => match ds with | [u, v] => m u v w | _ => R.no) := by
  subst hV
  refine ⟨ha.1, fun B F H σ Dn G sr gs hG => ⟨_, pss_cons (ps_par hc hN hi hj hij hlx hly pa_C hw hs) ps_C, ha.2 B F H σ _ _ G sr hx (gs.gx xb) (fun ds w1 vs S F1 H1 h1 e1 s1 p1 => ?_) hG⟩⟩
  obtain ⟨u, us, d, ds', rfl, rfl⟩ := p1.inv
  obtain ⟨s2, _, p2⟩ := p1.put i s1
  obtain ⟨u', us', d', ds'', rfl, rfl⟩ := p2.inv
  obtain ⟨s3, _, p3⟩ := p2.put j s2
  cases p3
  exact ⟨_, _, rfl, (hr _ _ w1).2 B F1 H1 _ Dn G s3 (gs.mono e1) h1⟩
theorem Z9f {x y : Str} {a b : Expr} {k1 k2 : Option (List Str)} {cs : (List D -> D -> R β ω) -> R β ω} {px py pt pt2 : Pos} {kt kk : Nat} {m : D -> D -> D -> R β ω} (i j : Nat) (xb : β) (ha : AVP X K E (κ.fx xb) xb (fun _ => env) .non [k1, k2] [a, b] cs) (hx : Wk env (κ.fx xb))
    (hr : ∀ u v w, AB X K E κ (fput (fput env i (slK k1 u)) j (slK k2 v)) rest (m u v w)) (hc : X.calm = true) (hN : X.N.Nodup)
    (hlx : X.env.scope.names.lookup x = some .local := by rfl) (hly : X.env.scope.names.lookup y = some .local := by rfl) (hij : i ≠ j := by decide) (hi : X.N[i]? = some x := by rfl) (hj : X.N[j]? = some y := by rfl)
    (hw : swappedStores [.Tuple [.Name x px, .Name y py] kt pt] (.Tuple [a, b] kk pt2) X.env = pure (some [x, y]) := by rfl) (hs : swapsWithSole [.Tuple [.Name x px, .Name y py] kt pt] (.Tuple [a, b] kk pt2) pos.line X.env = pure false := by rfl) :
    AB X K E κ env (.Assign [.Tuple [.Name x px, .Name y py] kt pt] (.Tuple [a, b] kk pt2) pos :: rest) (cs fun ds w => match ds with | [u, v] => m u v w | _ => R.no) :=
  Zkm (V := fun _ => env) (w0 := .non) i j rfl xb ha (fun _ => hx) hr hc hN hlx hly hij hi hj hw hs
end
theorem Z2x {X : Cx} {K : PySem.W.Frag} {E : XE} {β ω : Type} {κ : Kt β ω} {env : Fm} {st : List Stmt} {m : R β ω} (env' : Fm) (h : env = env') (hr : AB X K E κ env' st m) : AB X K E κ env st m := h ▸ hr
end DM
namespace DM
open PySem PySem.Spec PyProof.Rows L2 DL
def Sq2 (K : PySem.W.Frag) (H : Hp) : Bool -> Addr -> List V -> Prop
  | true, a, xs => SqL K H a xs
  | false, a, xs => SqT K H a xs
def itS (h : Heap) : Bool -> Addr -> Addr -> Nat -> Prop
  | true, it, a, i => h.IsListIter it a i
  | false, it, a, i => h.IsTupleIter it a i
def isS (h : Heap) : Bool -> Addr -> Array Value -> Prop
  | true, a, xs => h.IsList a xs
  | false, a, xs => h.IsTuple a xs
def objS : Bool -> Addr -> Obj
  | true, a => { cls := .type "list_iterator", data := .fields #[.ref a, .int 0 0] }
  | false, a => { cls := .type "tuple_iterator", data := .fields #[.ref a, .int 0 0] }
theorem Z94 {h : Heap} {it a : Addr} : ∀ {b : Bool}, h.get? it = some (objS b a) -> itS h b it a 0
  | true, e => ⟨_, e, rfl, rfl⟩
  | false, e => ⟨_, e, rfl, rfl⟩
theorem Z4x {h : Heap} {it a : Addr} {i : Nat} : ∀ {b : Bool}, itS h b it a i -> ∃ o, h.get? it = some o ∧ o.data = .fields #[.ref a, .int i 0]
  | true, ⟨o, e, _, d⟩ => ⟨o, e, d⟩
  | false, ⟨o, e, _, d⟩ => ⟨o, e, d⟩
theorem Z6f {h h' : Heap} {it a : Addr} {i : Nat} : ∀ {b : Bool}, itS h b it a i -> (∀ o, h.get? it = some o -> h'.get? it = some o) -> itS h' b it a i
  | true, s, k => Heap.IsListIter.at s k
  | false, s, k => Heap.IsTupleIter.at s k
theorem Z3u {P : Program} {w : World} {A : Around} (hh : A.handled = none) (it a : Addr) (hne : a ≠ it) (xs : Array Value) : ∀ b : Bool, Draws P w A it [it, a] xs.size (fun i v => xs[i]? = some v) (fun i h => itS h b it a i ∧ isS h b a xs)
  | true => .list hh it a hne xs
  | false => .tuple hh it a hne xs
theorem Z5z (a : Addr) (xs : Array Value) : ∀ b : Bool, Begins (.ref a) (objS b a) fun h => isS h b a xs
  | true => begins_list a xs
  | false => begins_tuple a xs
theorem Z4b {X : Cx} {pins : List (Addr × Obj)} {σ : L2.St} {H : Hp} {s : Shared} (I : Inv X pins σ H s) {a : Addr} {xs : List V} : ∀ {b : Bool}, Sq2 X.K H b a xs -> ∃ its, Vals xs its ∧ isS s.heap b a its.toArray ∧ a < s.heap.objs.size
  | true, h => by
    obtain ⟨its, rv, p, _⟩ := I.list h
    exact ⟨its, rv, p.isList, p.lt⟩
  | false, h => by
    obtain ⟨its, rv, p, _⟩ := I.tuple h
    have hlt : a < s.heap.objs.size := by obtain ⟨o, ho, _⟩ := id p; exact Heap.lt_size ho
    exact ⟨its, rv, p, hlt⟩
theorem Z3o {K : PySem.W.Frag} {F H : Hp} (e : Ex F H) {a : Addr} {xs : List V} : ∀ {b : Bool}, Sq2 K F b a xs -> Sq2 K H b a xs
  | true, h => e.sl h
  | false, h => e.st h
theorem nm2 {x u v : Nat} (h1 : x ≠ u) (h2 : x ≠ v) : (x : Addr) ∉ ([u, v] : List Addr) := fun h => by
  rcases List.mem_cons.mp h with z | z
  · exact h1 z
  · exact h2 (List.mem_singleton.mp z)
theorem Zqy {n a a' : Nat} (l1 : a < n) (l2 : a' < n) : ZipSep2 (n + 4) (n + 2) (n + 3) n (n + 1) [n, a] [n + 1, a'] where
  TIz := (by omega : (n + 2 : Nat) ≠ n + 4)
  TOz := (by omega : (n + 3 : Nat) ≠ n + 4)
  TITO := (by omega : (n + 2 : Nat) ≠ n + 3)
  TIi1 := (by omega : (n + 2 : Nat) ≠ n)
  mem1 := List.mem_cons_self
  zf1 := nm2 (by omega) (by omega)
  Tf1 := nm2 (by omega) (by omega)
  TIi2 := (by omega : (n + 2 : Nat) ≠ n + 1)
  mem2 := List.mem_cons_self
  zf2 := nm2 (by omega) (by omega)
  Tf2 := nm2 (by omega) (by omega)
  sep1_2 := nm2 (by omega) (by omega)
  sep2_1 := nm2 (by omega) (by omega)
theorem Zqx {n a a' a'' : Nat} (l1 : a < n) (l2 : a' < n) (l3 : a'' < n) : ZipSep3 (n + 5) (n + 3) (n + 4) n (n + 1) (n + 2) [n, a] [n + 1, a'] [n + 2, a''] where
  TIz := (by omega : (n + 3 : Nat) ≠ n + 5)
  TOz := (by omega : (n + 4 : Nat) ≠ n + 5)
  TITO := (by omega : (n + 3 : Nat) ≠ n + 4)
  TIi1 := (by omega : (n + 3 : Nat) ≠ n)
  mem1 := List.mem_cons_self
  zf1 := nm2 (by omega) (by omega)
  Tf1 := nm2 (by omega) (by omega)
  TIi2 := (by omega : (n + 3 : Nat) ≠ n + 1)
  mem2 := List.mem_cons_self
  zf2 := nm2 (by omega) (by omega)
  Tf2 := nm2 (by omega) (by omega)
  TIi3 := (by omega : (n + 3 : Nat) ≠ n + 2)
  mem3 := List.mem_cons_self
  zf3 := nm2 (by omega) (by omega)
  Tf3 := nm2 (by omega) (by omega)
  sep1_2 := nm2 (by omega) (by omega)
  sep1_3 := nm2 (by omega) (by omega)
  sep2_1 := nm2 (by omega) (by omega)
  sep2_3 := nm2 (by omega) (by omega)
  sep3_1 := nm2 (by omega) (by omega)
  sep3_2 := nm2 (by omega) (by omega)
def ItQ (K : PySem.W.Frag) (b b' : Bool) (a a' : Addr) (xs ys : List V) : It where
  go := fun i H => Sq2 K H b a xs ∧ Sq2 K H b' a' ys ∧ i < xs.length ∧ i < ys.length
  yld := fun i H v H' => ∃ T o x y, v = .ref T ∧ H T = none ∧ o.dict = none ∧ H' = upd H T (.frz o (.tup [x, y])) ∧ xs[i]? = some x ∧ ys[i]? = some y
  stop := fun i H => Sq2 K H b a xs ∧ Sq2 K H b' a' ys ∧ (xs.length ≤ i ∨ ys.length ≤ i)
theorem Zgi {P : Program} {w : World} {K : PySem.W.Frag} {elts : List Expr} {kk : Nat} {tpos : Pos} {b b' : Bool} {a a' z TI TO i1 i2 : Addr} {xs ys : List V} (D : ZipSep2 z TI TO i1 i2 [i1, a] [i2, a']) (n1 : a ≠ i1) (n2 : a' ≠ i2) :
    Turn P w K (.Tuple elts kk tpos) (ItQ K b b' a a' xs ys) [z, TI, TO, i1, i2] z (fun i h => IsZip h z TI TO .none ∧ IsTupOf2 h TI (.ref i1) (.ref i2) ∧ (∃ x y, IsTupOf2 h TO x y) ∧ itS h b i1 a i ∧ itS h b' i2 a' i ∧ i ≤ xs.length ∧ i ≤ ys.length) where
  mem := by simp
  obj := fun i h st c hc => by
    obtain ⟨hz, hTI, ⟨x, y, hTO⟩, h1, h2, _⟩ := st
    obtain ⟨o1, e1, d1⟩ := Z4x h1
    obtain ⟨o2, e2, d2⟩ := Z4x h2
    have e' : c = z ∨ c = TI ∨ c = TO ∨ c = i1 ∨ c = i2 := by simpa using hc
    rcases e' with q | q | q | q | q
    · rw [q]; exact ⟨_, hz, fun v q => nomatch q⟩
    · rw [q]; exact ⟨_, hTI, fun v q => nomatch q⟩
    · rw [q]; exact ⟨_, hTO, fun v q => nomatch q⟩
    · rw [q]; exact ⟨o1, e1, fun v q => by rw [d1] at q; cases q⟩
    · rw [q]; exact ⟨o2, e2, fun v q => by rw [d2] at q; cases q⟩
  keep := fun i h h' st k => by
    obtain ⟨hz, hTI, ⟨x, y, hTO⟩, h1, h2, l⟩ := st
    exact ⟨k z (by simp) _ hz, k TI (by simp) _ hTI, ⟨x, y, k TO (by simp) _ hTO⟩, Z6f h1 fun o q => k i1 (by simp) o q, Z6f h2 fun o q => k i2 (by simp) o q, l⟩
  item := by
    intro X hP hw hK hc i pins s σ H E I hf st hg
    subst hP hw hK
    obtain ⟨hz, hTI, ⟨x0, y0, hTO⟩, h1, h2, l1, l2⟩ := st
    obtain ⟨hqx, hqy, hx, hy⟩ := hg
    obtain ⟨its, rv, p, _⟩ := Z4b I hqx
    obtain ⟨its2, rv2, p2, _⟩ := Z4b I hqy
    have hzl : z < s.heap.objs.size := Heap.lt_size hz
    have hh := I.ok.hd hc
    have lx : i < its.toArray.size := by rw [List.size_toArray, ← rv.length]; exact hx
    have ly : i < its2.toArray.size := by rw [List.size_toArray, ← rv2.length]; exact hy
    refine wpAny_pyNext_zipD2_item D (Z3u (A := X.A.in1) hh i1 a n1 its.toArray b) (Z3u (A := X.A.in1) hh i2 a' n2 its2.toArray b') hz hTI hTO ⟨h1, p⟩ ⟨h2, p2⟩ lx ly fun u u2 h' tk hu hu2 z' TO' st1 st2 hT hsz hk => ?_
    obtain ⟨x, ex, ru⟩ : ∃ x, xs[i]? = some x ∧ RelV x u := by
      obtain ⟨q, hq, r⟩ := rv.get (List.getElem?_eq_getElem hx)
      rw [List.getElem?_toArray, hq] at hu
      cases hu
      exact ⟨_, List.getElem?_eq_getElem hx, r⟩
    obtain ⟨y, ey, ru2⟩ : ∃ y, ys[i]? = some y ∧ RelV y u2 := by
      obtain ⟨q, hq, r⟩ := rv2.get (List.getElem?_eq_getElem hy)
      rw [List.getElem?_toArray, hq] at hu2
      cases hu2
      exact ⟨_, List.getElem?_eq_getElem hy, r⟩
    refine ⟨_, rfl, wpAny_letOwnedTupleGo_zip (s := { s with heap := h', toks := tk }) z' fun h'' z'' sb => ?_⟩
    have hT2 : h''.get? s.heap.objs.size = some { cls := .type "tuple", data := .seq #[u, u2] } := (sb.2 _ (Nat.ne_of_gt hzl)).trans hT
    have I1 := I.turnedNew (ob := .frz { cls := .type "tuple", data := .seq #[u, u2] } (.tup [x, y])) (t' := tk) (ch := [z, TI, TO, i1, i2]) (fun c o hb q => (sb.2 c (fun q' => hb (by simp [q']))).trans (hk c o (fun q' => hb (by simp [q'])) (fun q' => hb (by simp [q'])) (fun q' => hb (by simp [q'])) (fun q' => hb (by simp [q'])) q)) hf (Nat.le_refl _)
      (show _ = _ ∧ _ from ⟨hT2, (by decide : 2 ≤ sizeLine), [u, u2], .cons ru (.cons ru2 .nil), _, hT2, rfl, _, rfl⟩)
    refine ⟨.ref s.heap.objs.size, _, I1, rfl, ⟨_, _, x, y, rfl, I.hok.fresh (Nat.le_refl _), rfl, rfl, ex, ey⟩, ⟨z'', ?_, ⟨u, u2, ?_⟩, ?_, ?_, hx, hy⟩, fun c hcm => ?_⟩
    · exact (sb.2 _ D.TIz).trans (hk _ _ D.TIz D.TITO D.TIi1 D.TIi2 hTI)
    · exact (sb.2 _ D.TOz).trans TO'
    · exact Z6f st1.1 fun o q => (sb.2 _ (Ne.symm D.zi1)).trans q
    · exact Z6f st2.1 fun o q => (sb.2 _ (Ne.symm D.zi2)).trans q
    · have hlt : c < s.heap.objs.size := by
        obtain ⟨o1, e1, _⟩ := Z4x h1
        obtain ⟨o2, e2, _⟩ := Z4x h2
        have e' : c = z ∨ c = TI ∨ c = TO ∨ c = i1 ∨ c = i2 := by simpa using hcm
        rcases e' with q | q | q | q | q
        · rw [q]; exact hzl
        · rw [q]; exact Heap.lt_size hTI
        · rw [q]; exact Heap.lt_size hTO
        · rw [q]; exact Heap.lt_size e1
        · rw [q]; exact Heap.lt_size e2
      rw [upd_ne (Nat.ne_of_lt hlt)]
      exact (hf c hcm).1
  done := by
    intro X hP hw hK hc i pins s σ H E I hf st hg
    subst hP hw hK
    obtain ⟨hz, hTI, ⟨x0, y0, hTO⟩, h1, h2, l1, l2⟩ := st
    obtain ⟨hqx, hqy, hend⟩ := hg
    obtain ⟨its, rv, p, _⟩ := Z4b I hqx
    obtain ⟨its2, rv2, p2, _⟩ := Z4b I hqy
    have hh := I.ok.hd hc
    have e1 : its.toArray.size = xs.length := by rw [List.size_toArray, ← rv.length]
    have e2 : its2.toArray.size = ys.length := by rw [List.size_toArray, ← rv2.length]
    exact wpAny_pyNext_zipD2_end D (Z3u (A := X.A.in1) hh i1 a n1 its.toArray b) (Z3u (A := X.A.in1) hh i2 a' n2 its2.toArray b') hz hTI hTO ⟨h1, p⟩ ⟨h2, p2⟩ (by omega) (by omega) (by omega) fun h' tk hk => ⟨rfl, I.turnedL (t' := tk) (ch := [z, TI, TO, i1, i2]) (fun c o hb q =>
      hk c o (fun q' => hb (by simp [q'])) (fun q' => hb (by simp [q'])) (fun q' => hb (by simp [q'])) (fun q' => hb (by simp [q'])) q) hf⟩
  self := fun A i s Q E st h => wpAny_pyIter_zip st.1 h
theorem Zme {X : Cx} {e e2 : Expr} {ta : TA} {p pos tpos : Pos} {elts : List Expr} {kk : Nat} (hg : Gl X "zip") (hm : X.mg "zip" = none) (ha : PA X [e, e2] ta)
    (hs : starEach [e, e2] X.env = (false, eval e X.env) :: starEach [e2] X.env := by rfl) (hpl : (backTo pos (starEach [e2] X.env)).any (·.1) = false := by rfl) :
    PI X (.Tuple elts kk tpos) (.Call (.Name "zip" p) [e, e2] [] pos) (fun σ H R => ta σ H fun vs H1 => ∃ b b' a a' xs ys, vs = [.ref a, .ref a'] ∧ Sq2 X.K H1 b a xs ∧ Sq2 X.K H1 b' a' ys ∧ R (ItQ X.K b b' a a' xs ys) H1) := by
  refine ⟨fun pins s σ H R I h => ?_⟩
  refine Call_ (ld_blt I hg hm PyProof.Rows.boot_zip (PyProof.Rows.callWith_type1 (thn (ha.run pos pins s σ H _ I h) fun us s1 ⟨vs, H1, I1, r1, q1⟩ => ?_) hs hpl))
  obtain ⟨b, b', a, a', xs, ys, rfl, hqx, hqy, q⟩ := q1
  cases r1 with
  | cons r rr =>
    cases rr with
    | cons r' rr =>
      cases rr
      cases r
      cases r'
      obtain ⟨its, rv, p1, l1⟩ := Z4b I1 hqx
      obtain ⟨its2, rv2, p2, l2⟩ := Z4b I1 hqy
      refine zip_begins2 (Z5z a its.toArray b) (Z5z a' its2.toArray b') p1 p2 fun h' hz hTI hTO g1 g2 hsz hk => wpAny_pyIter_zip hz ?_
      have I2 : Inv X pins σ H1 { s1 with heap := h' } := I1.kept (t' := s1.toks) hk
      have fresh5 : ∀ c, c ∈ [s1.heap.objs.size + 4, s1.heap.objs.size + 2, s1.heap.objs.size + 3, s1.heap.objs.size, s1.heap.objs.size + 1] -> FpOk X pins H1 c := fun c hcm => by
        have e' : c = s1.heap.objs.size + 4 ∨ c = s1.heap.objs.size + 2 ∨ c = s1.heap.objs.size + 3 ∨ c = s1.heap.objs.size ∨ c = s1.heap.objs.size + 1 := by simpa using hcm
        have hle : s1.heap.objs.size ≤ c := by omega
        exact I1.fpOk hle (I1.hok.fresh hle)
      have D : ZipSep2 (s1.heap.objs.size + 4) (s1.heap.objs.size + 2) (s1.heap.objs.size + 3) s1.heap.objs.size (s1.heap.objs.size + 1) [s1.heap.objs.size, a] [s1.heap.objs.size + 1, a'] := Zqy l1 l2
      exact ⟨s1.heap.objs.size + 4, [s1.heap.objs.size + 4, s1.heap.objs.size + 2, s1.heap.objs.size + 3, s1.heap.objs.size, s1.heap.objs.size + 1], _, _, H1, rfl, I2, Zgi D (Nat.ne_of_lt l1) (Nat.ne_of_lt (Nat.lt_succ_of_lt l2)), ⟨hz, hTI, ⟨_, _, hTO⟩, Z94 g1, Z94 g2, Nat.zero_le _, Nat.zero_le _⟩, fresh5, q⟩
def zipD (ds es : List D) : List D := List.zipWith (fun d e => .tup [d, e]) ds es
theorem Zm7 {K : PySem.W.Frag} {F : Hp} {b b' : Bool} {a a' : Addr} {xs ys : List V} {ds es : List D} (h1 : Sq2 K F b a xs) (h2 : DrA K F xs ds) (g1 : Sq2 K F b' a' ys) (g2 : DrA K F ys es) : rI K F (ItQ K b b' a a' xs ys) (zipD ds es) := by
  intro F2 H2 e2 e3
  have hq := Z3o (e2.trans e3) h1
  have hq2 := Z3o (e2.trans e3) g1
  have hl : (zipD ds es).length = min ds.length es.length := List.length_zipWith
  refine ⟨fun i hi => ?_, fun i hi => ⟨hq, hq2, by rw [h2.length, g2.length]; rw [hl] at hi; omega⟩, fun i x H3 d hd hy => Or.inr ?_⟩
  · rw [hl] at hi
    exact ⟨hq, hq2, by rw [h2.length]; omega, by rw [g2.length]; omega⟩
  · obtain ⟨T, o, x', y', rfl, hT, ho, rfl, hx, hy⟩ := hy
    unfold zipD at hd
    rw [List.getElem?_zipWith] at hd
    cases k1 : ds[i]? with
    | none => rw [k1] at hd; cases hd
    | some d1 =>
      cases k2 : es[i]? with
      | none => rw [k1, k2] at hd; cases hd
      | some d2 =>
        rw [k1, k2] at hd
        cases hd
        obtain ⟨v, ev, hv⟩ := h2.get k1
        obtain ⟨v2, ev2, hv2⟩ := g2.get k2
        rw [ev] at hx
        rw [ev2] at hy
        cases hx
        cases hy
        have hF : F2 T = none := e3.none hT
        exact ⟨T, _, hT, rfl, .tup (Or.inl ⟨o, upd_same, ho⟩) (.cons ((hv.mono e2).mono (Ex.new hF)) (.cons ((hv2.mono e2).mono (Ex.new hF)) .nil))⟩
theorem Zcv {K : PySem.W.Frag} {F : Hp} {v : V} {d : D} {ds : List D} (h : Dr K F v d) (e : d = .lst ds ∨ d = .tup ds) : ∃ b a xs, v = .ref a ∧ Sq2 K F b a xs ∧ DrA K F xs ds := by
  rcases e with rfl | rfl
  · cases h with
    | lst h1 h2 => exact ⟨true, _, _, rfl, .inl h1, h2⟩
  · cases h with
    | tup h1 h2 => exact ⟨false, _, _, rfl, h1.sq, h2⟩
section
variable {X : Cx} {K : PySem.W.Frag} {E : XE} {β γ : Type} {xF : Fm} {xb : β} {env : Fm} {e a b c : Expr} {pos p : Pos} {c1 c2 c3 : (D -> R β γ) -> R β γ}
theorem Z9d {d : D} {k : List D -> R β γ} {G : R β γ -> Prop} (hn : ¬ G .no) (h : G (R.asQ d k)) : ∃ ds, (d = .lst ds ∨ d = .tup ds) ∧ G (k ds) := by
  cases d <;> first | exact (hn h).elim | skip
  · exact ⟨_, .inl rfl, h⟩
  · exact ⟨_, .inr rfl, h⟩
theorem Znl {elts : List Expr} {kk : Nat} {tpos : Pos} (hm : X.mg "zip" = none) (hg : Gl X "zip") (ha : AE X K E xF xb env a c1) (hb : AE X K E xF xb env b c2) (hs : starEach [a, b] X.env = (false, eval a X.env) :: starEach [b] X.env := by rfl) (hs2 : starEach [b] X.env = [(false, eval b X.env)] := by rfl) (hpl : (backTo pos (starEach [b] X.env)).any (·.1) = false := by rfl) :
    AI X K E xF xb env (.Tuple elts kk tpos) (.Call (.Name "zip" p) [a, b] [] pos) (fun (k : List D -> R β γ) => c1 fun d => c2 fun e => R.asQ d fun ds => R.asQ e fun es => k (zipD ds es)) := by
  have hK := ha.1
  subst hK
  exact ⟨rfl, fun B F H σ Q k G s w gx hk hG => ⟨_, Zme hg hm (pa_cons pe_C (pa_cons pe_C pa_nil hs2) hs) hs hpl, ha.2 B F H σ _ _ G s w gx (fun d v F1 H1 h1 e1 eh1 s1 d1 => hb.2 B F1 H1 σ _ _ G s1 w (gx.mono e1) (fun d' v' F2 H2 h2 e2 eh2 s2 d2 => by
    obtain ⟨ds, ed, h2⟩ := Z9d gx.no h2
    obtain ⟨es, ed', h2⟩ := Z9d gx.no h2
    obtain ⟨b1, a1, xs, rfl, q1, r1⟩ := Zcv (d1.mono e2) ed
    obtain ⟨b2, a2, ys, rfl, q2, r2⟩ := Zcv d2 ed'
    exact ⟨b1, b2, a1, a2, xs, ys, rfl, Z3o s2.ex q1, Z3o s2.ex q2, hk _ _ F2 H2 h2 (e1.trans e2) (eh1.trans eh2) s2 (Zm7 q1 r1 q2 r2)⟩) h1) hG⟩⟩
end
def ItQ3 (K : PySem.W.Frag) (b b' b'' : Bool) (a a' a'' : Addr) (xs ys zs : List V) : It where
  go := fun i H => Sq2 K H b a xs ∧ Sq2 K H b' a' ys ∧ Sq2 K H b'' a'' zs ∧ i < xs.length ∧ i < ys.length ∧ i < zs.length
  yld := fun i H v H' => ∃ T o x y u, v = .ref T ∧ H T = none ∧ o.dict = none ∧ H' = upd H T (.frz o (.tup [x, y, u])) ∧ xs[i]? = some x ∧ ys[i]? = some y ∧ zs[i]? = some u
  stop := fun i H => Sq2 K H b a xs ∧ Sq2 K H b' a' ys ∧ Sq2 K H b'' a'' zs ∧ (xs.length ≤ i ∨ ys.length ≤ i ∨ zs.length ≤ i)
theorem Zfg {P : Program} {w : World} {K : PySem.W.Frag} {elts : List Expr} {kk : Nat} {tpos : Pos} {b b' b'' : Bool} {a a' a'' z TI TO i1 i2 i3 : Addr} {xs ys zs : List V} (D : ZipSep3 z TI TO i1 i2 i3 [i1, a] [i2, a'] [i3, a'']) (n1 : a ≠ i1) (n2 : a' ≠ i2) (n3 : a'' ≠ i3) :
    Turn P w K (.Tuple elts kk tpos) (ItQ3 K b b' b'' a a' a'' xs ys zs) [z, TI, TO, i1, i2, i3] z (fun i h => IsZip h z TI TO .none ∧ IsTupOf3 h TI (.ref i1) (.ref i2) (.ref i3) ∧ (∃ x y u, IsTupOf3 h TO x y u) ∧ itS h b i1 a i ∧ itS h b' i2 a' i ∧ itS h b'' i3 a'' i ∧ i ≤ xs.length ∧ i ≤ ys.length ∧ i ≤ zs.length) where
  mem := by simp
  obj := fun i h st c hc => by
    obtain ⟨hz, hTI, ⟨x, y, u, hTO⟩, h1, h2, h3, _⟩ := st
    obtain ⟨o1, e1, d1⟩ := Z4x h1
    obtain ⟨o2, e2, d2⟩ := Z4x h2
    obtain ⟨o3, e3, d3⟩ := Z4x h3
    have e' : c = z ∨ c = TI ∨ c = TO ∨ c = i1 ∨ c = i2 ∨ c = i3 := by simpa using hc
    rcases e' with q | q | q | q | q | q
    · rw [q]; exact ⟨_, hz, fun v q => nomatch q⟩
    · rw [q]; exact ⟨_, hTI, fun v q => nomatch q⟩
    · rw [q]; exact ⟨_, hTO, fun v q => nomatch q⟩
    · rw [q]; exact ⟨o1, e1, fun v q => by rw [d1] at q; cases q⟩
    · rw [q]; exact ⟨o2, e2, fun v q => by rw [d2] at q; cases q⟩
    · rw [q]; exact ⟨o3, e3, fun v q => by rw [d3] at q; cases q⟩
  keep := fun i h h' st k => by
    obtain ⟨hz, hTI, ⟨x, y, u, hTO⟩, h1, h2, h3, l⟩ := st
    exact ⟨k z (by simp) _ hz, k TI (by simp) _ hTI, ⟨x, y, u, k TO (by simp) _ hTO⟩, Z6f h1 fun o q => k i1 (by simp) o q, Z6f h2 fun o q => k i2 (by simp) o q, Z6f h3 fun o q => k i3 (by simp) o q, l⟩
  item := by
    intro X hP hw hK hc i pins s σ H E I hf st hg
    subst hP hw hK
    obtain ⟨hz, hTI, ⟨x0, y0, u0, hTO⟩, h1, h2, h3, l1, l2, l3⟩ := st
    obtain ⟨hqx, hqy, hqz, hx, hy, hu⟩ := hg
    obtain ⟨its, rv, p, _⟩ := Z4b I hqx
    obtain ⟨its2, rv2, p2, _⟩ := Z4b I hqy
    obtain ⟨its3, rv3, p3, _⟩ := Z4b I hqz
    have hzl : z < s.heap.objs.size := Heap.lt_size hz
    have hh := I.ok.hd hc
    have lx : i < its.toArray.size := by rw [List.size_toArray, ← rv.length]; exact hx
    have ly : i < its2.toArray.size := by rw [List.size_toArray, ← rv2.length]; exact hy
    have lu : i < its3.toArray.size := by rw [List.size_toArray, ← rv3.length]; exact hu
    refine wpAny_pyNext_zipD3_item D (Z3u (A := X.A.in1) hh i1 a n1 its.toArray b) (Z3u (A := X.A.in1) hh i2 a' n2 its2.toArray b') (Z3u (A := X.A.in1) hh i3 a'' n3 its3.toArray b'') hz hTI hTO ⟨h1, p⟩ ⟨h2, p2⟩ ⟨h3, p3⟩ lx ly lu fun u u2 u3 h' tk hu1 hu2 hu3 z' TO' st1 st2 st3 hT hsz hk => ?_
    obtain ⟨x, ex, ru⟩ : ∃ x, xs[i]? = some x ∧ RelV x u := by
      obtain ⟨q, hq, r⟩ := rv.get (List.getElem?_eq_getElem hx)
      rw [List.getElem?_toArray, hq] at hu1
      cases hu1
      exact ⟨_, List.getElem?_eq_getElem hx, r⟩
    obtain ⟨y, ey, ru2⟩ : ∃ y, ys[i]? = some y ∧ RelV y u2 := by
      obtain ⟨q, hq, r⟩ := rv2.get (List.getElem?_eq_getElem hy)
      rw [List.getElem?_toArray, hq] at hu2
      cases hu2
      exact ⟨_, List.getElem?_eq_getElem hy, r⟩
    obtain ⟨t, et, ru3⟩ : ∃ t, zs[i]? = some t ∧ RelV t u3 := by
      obtain ⟨q, hq, r⟩ := rv3.get (List.getElem?_eq_getElem hu)
      rw [List.getElem?_toArray, hq] at hu3
      cases hu3
      exact ⟨_, List.getElem?_eq_getElem hu, r⟩
    refine ⟨_, rfl, wpAny_letOwnedTupleGo_zip (s := { s with heap := h', toks := tk }) z' fun h'' z'' sb => ?_⟩
    have hT2 : h''.get? s.heap.objs.size = some { cls := .type "tuple", data := .seq #[u, u2, u3] } := (sb.2 _ (Nat.ne_of_gt hzl)).trans hT
    have I1 := I.turnedNew (ob := .frz { cls := .type "tuple", data := .seq #[u, u2, u3] } (.tup [x, y, t])) (t' := tk) (ch := [z, TI, TO, i1, i2, i3]) (fun c o hb q => (sb.2 c (fun q' => hb (by simp [q']))).trans (hk c o (fun q' => hb (by simp [q'])) (fun q' => hb (by simp [q'])) (fun q' => hb (by simp [q'])) (fun q' => hb (by simp [q'])) (fun q' => hb (by simp [q'])) q)) hf (Nat.le_refl _)
      (show _ = _ ∧ _ from ⟨hT2, (by decide : 3 ≤ sizeLine), [u, u2, u3], .cons ru (.cons ru2 (.cons ru3 .nil)), _, hT2, rfl, _, rfl⟩)
    refine ⟨.ref s.heap.objs.size, _, I1, rfl, ⟨_, _, x, y, t, rfl, I.hok.fresh (Nat.le_refl _), rfl, rfl, ex, ey, et⟩, ⟨z'', ?_, ⟨u, u2, u3, ?_⟩, ?_, ?_, ?_, hx, hy, hu⟩, fun c hcm => ?_⟩
    · exact (sb.2 _ D.TIz).trans (hk _ _ D.TIz D.TITO D.TIi1 D.TIi2 D.TIi3 hTI)
    · exact (sb.2 _ D.TOz).trans TO'
    · exact Z6f st1.1 fun o q => (sb.2 _ (Ne.symm D.zi1)).trans q
    · exact Z6f st2.1 fun o q => (sb.2 _ (Ne.symm D.zi2)).trans q
    · exact Z6f st3.1 fun o q => (sb.2 _ (Ne.symm D.zi3)).trans q
    · have hlt : c < s.heap.objs.size := by
        obtain ⟨o1, e1, _⟩ := Z4x h1
        obtain ⟨o2, e2, _⟩ := Z4x h2
        obtain ⟨o3, e3, _⟩ := Z4x h3
        have e' : c = z ∨ c = TI ∨ c = TO ∨ c = i1 ∨ c = i2 ∨ c = i3 := by simpa using hcm
        rcases e' with q | q | q | q | q | q
        · rw [q]; exact hzl
        · rw [q]; exact Heap.lt_size hTI
        · rw [q]; exact Heap.lt_size hTO
        · rw [q]; exact Heap.lt_size e1
        · rw [q]; exact Heap.lt_size e2
        · rw [q]; exact Heap.lt_size e3
      rw [upd_ne (Nat.ne_of_lt hlt)]
      exact (hf c hcm).1
  done := by
    intro X hP hw hK hc i pins s σ H E I hf st hg
    subst hP hw hK
    obtain ⟨hz, hTI, ⟨x0, y0, u0, hTO⟩, h1, h2, h3, l1, l2, l3⟩ := st
    obtain ⟨hqx, hqy, hqz, hend⟩ := hg
    obtain ⟨its, rv, p, _⟩ := Z4b I hqx
    obtain ⟨its2, rv2, p2, _⟩ := Z4b I hqy
    obtain ⟨its3, rv3, p3, _⟩ := Z4b I hqz
    have hh := I.ok.hd hc
    have e1 : its.toArray.size = xs.length := by rw [List.size_toArray, ← rv.length]
    have e2 : its2.toArray.size = ys.length := by rw [List.size_toArray, ← rv2.length]
    have e3 : its3.toArray.size = zs.length := by rw [List.size_toArray, ← rv3.length]
    exact wpAny_pyNext_zipD3_end D (Z3u (A := X.A.in1) hh i1 a n1 its.toArray b) (Z3u (A := X.A.in1) hh i2 a' n2 its2.toArray b') (Z3u (A := X.A.in1) hh i3 a'' n3 its3.toArray b'') hz hTI hTO ⟨h1, p⟩ ⟨h2, p2⟩ ⟨h3, p3⟩ (by omega) (by omega) (by omega) (by omega) fun h' tk hk => ⟨rfl, I.turnedL (t' := tk) (ch := [z, TI, TO, i1, i2, i3]) (fun c o hb q =>
      hk c o (fun q' => hb (by simp [q'])) (fun q' => hb (by simp [q'])) (fun q' => hb (by simp [q'])) (fun q' => hb (by simp [q'])) (fun q' => hb (by simp [q'])) q) hf⟩
  self := fun A i s Q E st h => wpAny_pyIter_zip st.1 h
theorem Zje {X : Cx} {e e2 e3 : Expr} {ta : TA} {p pos tpos : Pos} {elts : List Expr} {kk : Nat} (hg : Gl X "zip") (hm : X.mg "zip" = none) (ha : PA X [e, e2, e3] ta)
    (hs : starEach [e, e2, e3] X.env = (false, eval e X.env) :: starEach [e2, e3] X.env := by rfl) (hpl : (backTo pos (starEach [e2, e3] X.env)).any (·.1) = false := by rfl) :
    PI X (.Tuple elts kk tpos) (.Call (.Name "zip" p) [e, e2, e3] [] pos) (fun σ H R => ta σ H fun vs H1 => ∃ b b' b'' a a' a'' xs ys zs, vs = [.ref a, .ref a', .ref a''] ∧ Sq2 X.K H1 b a xs ∧ Sq2 X.K H1 b' a' ys ∧ Sq2 X.K H1 b'' a'' zs ∧ R (ItQ3 X.K b b' b'' a a' a'' xs ys zs) H1) := by
  refine ⟨fun pins s σ H R I h => ?_⟩
  refine Call_ (ld_blt I hg hm PyProof.Rows.boot_zip (PyProof.Rows.callWith_type1 (thn (ha.run pos pins s σ H _ I h) fun us s1 ⟨vs, H1, I1, r1, q1⟩ => ?_) hs hpl))
  obtain ⟨b, b', b'', a, a', a'', xs, ys, zs, rfl, hqx, hqy, hqz, q⟩ := q1
  cases r1 with
  | cons r rr =>
    cases rr with
    | cons r' rr =>
      cases rr with
      | cons r'' rr =>
        cases rr
        cases r
        cases r'
        cases r''
        obtain ⟨its, rv, p1, l1⟩ := Z4b I1 hqx
        obtain ⟨its2, rv2, p2, l2⟩ := Z4b I1 hqy
        obtain ⟨its3, rv3, p3, l3⟩ := Z4b I1 hqz
        refine zip_begins3 (Z5z a its.toArray b) (Z5z a' its2.toArray b') (Z5z a'' its3.toArray b'') p1 p2 p3 fun h' hz hTI hTO g1 g2 g3 hsz hk => wpAny_pyIter_zip hz ?_
        have I2 : Inv X pins σ H1 { s1 with heap := h' } := I1.kept (t' := s1.toks) hk
        have fresh5 : ∀ c, c ∈ [s1.heap.objs.size + 5, s1.heap.objs.size + 3, s1.heap.objs.size + 4, s1.heap.objs.size, s1.heap.objs.size + 1, s1.heap.objs.size + 2] -> FpOk X pins H1 c := fun c hcm => by
          have e' : c = s1.heap.objs.size + 5 ∨ c = s1.heap.objs.size + 3 ∨ c = s1.heap.objs.size + 4 ∨ c = s1.heap.objs.size ∨ c = s1.heap.objs.size + 1 ∨ c = s1.heap.objs.size + 2 := by simpa using hcm
          have hle : s1.heap.objs.size ≤ c := by omega
          exact I1.fpOk hle (I1.hok.fresh hle)
        have D : ZipSep3 (s1.heap.objs.size + 5) (s1.heap.objs.size + 3) (s1.heap.objs.size + 4) s1.heap.objs.size (s1.heap.objs.size + 1) (s1.heap.objs.size + 2) [s1.heap.objs.size, a] [s1.heap.objs.size + 1, a'] [s1.heap.objs.size + 2, a''] := Zqx l1 l2 l3
        exact ⟨s1.heap.objs.size + 5, [s1.heap.objs.size + 5, s1.heap.objs.size + 3, s1.heap.objs.size + 4, s1.heap.objs.size, s1.heap.objs.size + 1, s1.heap.objs.size + 2], _, _, H1, rfl, I2, Zfg D (Nat.ne_of_lt l1) (Nat.ne_of_lt (Nat.lt_succ_of_lt l2)) (Nat.ne_of_lt (Nat.lt_succ_of_lt (Nat.lt_succ_of_lt l3))), ⟨hz, hTI, ⟨_, _, _, hTO⟩, Z94 g1, Z94 g2, Z94 g3, Nat.zero_le _, Nat.zero_le _, Nat.zero_le _⟩, fresh5, q⟩
def zipD3 : List D -> List D -> List D -> List D
  | d :: ds, e :: es, f :: fs => .tup [d, e, f] :: zipD3 ds es fs
  | _, _, _ => []
theorem Z7w : ∀ (ds es fs : List D), (zipD3 ds es fs).length = min (min ds.length es.length) fs.length
  | [], _, _ => by simp [zipD3]
  | _ :: _, [], _ => by simp [zipD3]
  | _ :: _, _ :: _, [] => by simp [zipD3]
  | d :: ds, e :: es, f :: fs => by simp only [zipD3, List.length_cons, Z7w ds es fs]; omega
theorem Zbf : ∀ (ds es fs : List D) (i : Nat) (y : D), (zipD3 ds es fs)[i]? = some y -> ∃ d e f, ds[i]? = some d ∧ es[i]? = some e ∧ fs[i]? = some f ∧ y = .tup [d, e, f]
  | [], _, _, i, y, h => by simp [zipD3] at h
  | _ :: _, [], _, i, y, h => by simp [zipD3] at h
  | _ :: _, _ :: _, [], i, y, h => by simp [zipD3] at h
  | d :: ds, e :: es, f :: fs, 0, y, h => by
    simp only [zipD3, List.getElem?_cons_zero, Option.some.injEq] at h
    exact ⟨d, e, f, rfl, rfl, rfl, h.symm⟩
  | d :: ds, e :: es, f :: fs, i + 1, y, h => by
    simp only [zipD3, List.getElem?_cons_succ] at h ⊢
    exact Zbf ds es fs i y h
theorem Zja {K : PySem.W.Frag} {F : Hp} {b b' b'' : Bool} {a a' a'' : Addr} {xs ys zs : List V} {ds es fs : List D} (h1 : Sq2 K F b a xs) (h2 : DrA K F xs ds) (g1 : Sq2 K F b' a' ys) (g2 : DrA K F ys es) (j1 : Sq2 K F b'' a'' zs) (j2 : DrA K F zs fs) : rI K F (ItQ3 K b b' b'' a a' a'' xs ys zs) (zipD3 ds es fs) := by
  intro F2 H2 e2 e3
  have hq := Z3o (e2.trans e3) h1
  have hq2 := Z3o (e2.trans e3) g1
  have hq3 := Z3o (e2.trans e3) j1
  have hl := Z7w ds es fs
  refine ⟨fun i hi => ?_, fun i hi => ⟨hq, hq2, hq3, by rw [h2.length, g2.length, j2.length]; rw [hl] at hi; omega⟩, fun i x H3 d hd hy => Or.inr ?_⟩
  · rw [hl] at hi
    exact ⟨hq, hq2, hq3, by rw [h2.length]; omega, by rw [g2.length]; omega, by rw [j2.length]; omega⟩
  · obtain ⟨T, o, x', y', u', rfl, hT, ho, rfl, hx, hy, hu⟩ := hy
    obtain ⟨d1, d2, d3, k1, k2, k3, rfl⟩ := Zbf ds es fs i d hd
    obtain ⟨v, ev, hv⟩ := h2.get k1
    obtain ⟨v2, ev2, hv2⟩ := g2.get k2
    obtain ⟨v3, ev3, hv3⟩ := j2.get k3
    rw [ev] at hx
    rw [ev2] at hy
    rw [ev3] at hu
    cases hx
    cases hy
    cases hu
    have hF : F2 T = none := e3.none hT
    exact ⟨T, _, hT, rfl, .tup (Or.inl ⟨o, upd_same, ho⟩) (.cons ((hv.mono e2).mono (Ex.new hF)) (.cons ((hv2.mono e2).mono (Ex.new hF)) (.cons ((hv3.mono e2).mono (Ex.new hF)) .nil)))⟩
section
variable {X : Cx} {K : PySem.W.Frag} {E : XE} {β γ : Type} {xF : Fm} {xb : β} {env : Fm} {e a b c : Expr} {pos p : Pos} {c1 c2 c3 : (D -> R β γ) -> R β γ}
theorem Znk {elts : List Expr} {kk : Nat} {tpos : Pos} (hm : X.mg "zip" = none) (hg : Gl X "zip") (ha : AE X K E xF xb env a c1) (hb : AE X K E xF xb env b c2) (hc : AE X K E xF xb env c c3) (hs : starEach [a, b, c] X.env = (false, eval a X.env) :: starEach [b, c] X.env := by rfl) (hs2 : starEach [b, c] X.env = (false, eval b X.env) :: starEach [c] X.env := by rfl) (hs3 : starEach [c] X.env = [(false, eval c X.env)] := by rfl) (hpl : (backTo pos (starEach [b, c] X.env)).any (·.1) = false := by rfl) :
    AI X K E xF xb env (.Tuple elts kk tpos) (.Call (.Name "zip" p) [a, b, c] [] pos) (fun (k : List D -> R β γ) => c1 fun d => c2 fun e => c3 fun f => R.asQ d fun ds => R.asQ e fun es => R.asQ f fun fs => k (zipD3 ds es fs)) := by
  have hK := ha.1
  subst hK
  exact ⟨rfl, fun B F H σ Q k G s w gx hk hG => ⟨_, Zje hg hm (pa_cons pe_C (pa_cons pe_C (pa_cons pe_C pa_nil hs3) hs2) hs) hs hpl, ha.2 B F H σ _ _ G s w gx (fun d v F1 H1 h1 e1 eh1 s1 d1 => hb.2 B F1 H1 σ _ _ G s1 w (gx.mono e1) (fun d' v' F2 H2 h2 e2 eh2 s2 d2 => hc.2 B F2 H2 σ _ _ G s2 w (gx.mono (e1.trans e2)) (fun d'' v'' F3 H3 h3 e3 eh3 s3 d3 => by
    obtain ⟨ds, ed, h3⟩ := Z9d gx.no h3
    obtain ⟨es, ed', h3⟩ := Z9d gx.no h3
    obtain ⟨fs, ed'', h3⟩ := Z9d gx.no h3
    obtain ⟨b1, a1, xs, rfl, q1, r1⟩ := Zcv (d1.mono (e2.trans e3)) ed
    obtain ⟨b2, a2, ys, rfl, q2, r2⟩ := Zcv (d2.mono e3) ed'
    obtain ⟨b3, a3, zs, rfl, q3, r3⟩ := Zcv d3 ed''
    exact ⟨b1, b2, b3, a1, a2, a3, xs, ys, zs, rfl, Z3o s3.ex q1, Z3o s3.ex q2, Z3o s3.ex q3, hk _ _ F3 H3 h3 (e1.trans (e2.trans e3)) (eh1.trans (eh2.trans eh3)) s3 (Zja q1 r1 q2 r2 q3 r3)⟩) h2) h1) hG⟩⟩
end
end DM
namespace DM
open PySem PySem.Spec PyProof.Rows L2 DL
def R.rem {β γ : Type} (ds : List D) (y : D) (k : D -> R β γ) : R β γ := match intsOf ds, y with
  | some ns, .int n => if n ∈ ns then k (.lst ((ns.erase n).map .int)) else .no
  | _, _ => .no
section
variable {X : Cx} {K : PySem.W.Frag} {E : XE} {β ω : Type} {κ : Kt β ω} {env : Fm} {pos : Pos} {rest : List Stmt} {tag : Option Nat} {e : Expr}
theorem Zqp (i : Nat) {x : Str} {d : D} (hi : fget env i = .ow tag d []) {c : (D -> R β ω) -> R β ω} {m : D -> R β ω} {p1 p2 p3 : Pos} (xb : β) (he : AE X K E (κ.fx xb) xb env e c) (hx : Wk env (κ.fx xb)) (hr : ∀ d, AB X K E κ (fput env i (.ow tag d [])) rest (m d))
    (hN : X.N[i]? = some x := by rfl) (hv : Vis X.env.scope x := by first | exact Or.inl rfl | exact Or.inr (Or.inl rfl) | exact Or.inr (Or.inr rfl)) (hd : (x == ("__debug__" : Str)) = false := by decide) (hcd : (x == ("__classdict__" : Str)) = false := by decide)
    (hst : starEach [e] X.env = [(false, eval e X.env)] := by rfl)
    (hbase : attributeBase (.Name x p1) "remove" X.env (eval (.Name x p1) X.env) = eval (.Name x p1) X.env := by rfl)
    (hfew : ((backTo p3 (starEach [e] X.env)).all (fun x => !x.1) && (backToKw p3 (keywordEach [] X.env)).all (fun x => x.1.isSome)
      && decide (([e] : List Expr).length + ([] : List Keyword).length + (if ([] : List Keyword).isEmpty then 0 else 1) < 30)) = true := by rfl)
    (hline : (p2.endLine == p3.line) = true := by rfl)
    (hs : swapsWith (.Call (.Attribute (.Name x p1) "remove" p2) [e] [] p3) none pos.line X.env = pure false := by rfl) :
    AB X K E κ env (.Expr (.Call (.Attribute (.Name x p1) "remove" p2) [e] [] p3) pos :: rest) (R.asL d fun ds => c fun y => R.rem ds y m) := by
  have hK := he.1
  subst hK
  refine ⟨rfl, fun B F H σ Dn G sr gs hG => ⟨_, pss_cons (ps_expr (pe_bm PySem.F.plainAttrs_list PySem.F.slot_list_remove PySem.F.type_list_remove mt_remove (pe_var hN hv hd hcd) (pa_cons pe_C pa_nil hst) hbase hfew hline hst rfl) hs) ps_C, ?_⟩⟩
  cases d <;> first | exact (gs.no hG).elim | skip
  rename_i ds
  obtain ⟨p, o, h1, h2, h3⟩ := sr.cell0 hi
  cases h3
  refine ⟨.ref p, h1, Or.inl ⟨rfl, _, SqL.of h2⟩, he.2 B F H σ _ _ G sr hx (gs.gx xb) (fun y v F1 H1 g1 e1 eh1 s1 d1 => ?_) hG⟩
  unfold R.rem at g1
  split at g1
  · rename_i ns n hns
    split at g1
    · rename_i hm
      obtain ⟨p', o', k1, k2, k3⟩ := s1.cell0 hi
      rw [h1] at k1
      cases k1
      cases k3 with
      | lst hA =>
        have hA' := hA
        rw [Z5w hns] at hA'
        rw [Z78 hA'] at k2
        cases d1
        obtain ⟨j, hj, hj1, hj2, hj3⟩ := first_at hm
        obtain ⟨p4, o4, k4, k5, k6, k7⟩ := s1.cell (d' := .lst ((ns.erase n).map .int)) hi (.lst (Z4q (ns.erase n)))
        rw [h1] at k4
        cases k4
        refine ⟨p, ns, n, j, rfl, rfl, k2, hj1, hj2, ?_⟩
        rw [hj3]
        exact (hr _).2 B F1 _ σ Dn G k7 (gs.mono e1) g1
    · exact (gs.no g1).elim
  · exact (gs.no g1).elim
end
end DM
namespace DM
open PySem PySem.Spec PyProof.Rows L2 DL
def Zk5 (kds : List (Key × D)) (y z : D) : Option D := (keyD y).map fun k => (valD kds k).getD z
section
variable {X : Cx} {K : PySem.W.Frag} {E : XE} {β γ : Type} {xF : Fm} {xb : β} {env : Fm} {o e f : Expr} {apos cpos : Pos} {c1 c2 c3 : (D -> R β γ) -> R β γ}
theorem Znu (ho : AL X K E xF xb env o c1) (hi : AE X K E xF xb env e c2) (hf : AE X K E xF xb env f c3) (hu : X.A.units + 1 < cLine)
    (m1 : attributeBase o "get" X.env (eval o X.env) = eval o X.env := by rfl)
    (m2 : ((backTo cpos (starEach [e, f] X.env)).all (fun x => !x.1) && (backToKw cpos (keywordEach [] X.env)).all (fun x => x.1.isSome)
      && decide (([e, f] : List Expr).length + ([] : List Keyword).length + (if ([] : List Keyword).isEmpty then 0 else 1) < 30)) = true := by rfl)
    (m3 : (apos.endLine == cpos.line) = true := by rfl) (m4 : backTo cpos (starEach [e, f] X.env) = [(false, eval e X.env), (false, eval f X.env)] := by rfl) :
    AE X K E xF xb env (.Call (.Attribute o "get" apos) [e, f] [] cpos) (fun (k : D -> R β γ) => c1 fun x => R.lft (asKD x) fun kds => c2 fun y => c3 fun z => R.lft (Zk5 kds y z) k) :=
  ⟨ho.1, fun B F H σ Q k G s w gx hk hG => ⟨_, pe_dget2 hu pe_C pe_C pe_C ⟨m1, m2, m3, m4⟩, ho.2 B F H σ _ _ G s w gx (fun x v F1 H1 h1 e1 eh1 s1 d1 => by
    cases hx : asKD x with
    | none => rw [hx] at h1; exact (gx.no h1).elim
    | some kds =>
      rw [hx] at h1
      obtain ⟨a, kvs0, rfl, r1, r2, r3⟩ := d1.asK s1.ex hx
      refine ⟨a, rfl, .inl ⟨kvs0, r1⟩, ?_⟩
      refine hi.2 B F1 H1 σ _ _ G s1 w (gx.mono e1) (fun y u F2 H2 h2 e2 eh2 s2 d2 => hf.2 B F2 H2 σ _ _ G s2 w (gx.mono (e1.trans e2)) (fun z t F3 H3 h3 e3 eh3 s3 d3 => ?_) h2) h1
      unfold Zk5 at h3
      cases hy : keyD y with
      | none => rw [hy] at h3; exact (gx.no h3).elim
      | some ky =>
        rw [hy] at h3
        have h3 : G (k ((valD kds ky).getD z)) := h3
        obtain ⟨a', kvs, q, g1, g2, g3⟩ := (d1.mono (e2.trans e3) (eh2.trans eh3)).asK s3.ex hx
        cases q
        obtain ⟨g4, g5⟩ := Za2 ky g2 g3
        refine ⟨valV kvs ky, .inl ⟨kvs, ky, g1, (d2.mono e3).key hy, rfl⟩, ?_⟩
        cases hv : valD kds ky with
        | none =>
          rw [g5 hv]
          rw [hv] at h3
          exact hk z t F3 H3 h3 (e1.trans (e2.trans e3)) (eh1.trans (eh2.trans eh3)) s3 d3
        | some d =>
          obtain ⟨v', q4, q5⟩ := g4 d hv
          rw [q4]
          rw [hv] at h3
          exact hk d v' F3 H3 h3 (e1.trans (e2.trans e3)) (eh1.trans (eh2.trans eh3)) s3 q5) hG⟩⟩
end
end DM
namespace DZ
open PySem PySem.Spec PyProof.Rows L2 SrtO
section
variable {prog : Program} {w : World} {A : Around} {E : Value -> Shared -> Prop} {s : Shared}
theorem Zdw {l : Addr} {vs : List Value} {Q : List Value -> Shared -> Prop} (hl : s.heap.IsTuple l vs.toArray) (hsz : vs.length ≤ sizeLine)
    (h : Q vs { s with heap := (s.heap.push (seqObj "list" #[] 0)).update s.heap.objs.size (Obj.mapSeq (· ++ vs.toArray)) }) :
    wpAny (model prog w) A (collect (.ref l)) Q E s := by
  obtain ⟨o, ho, hc, n, hd⟩ := id hl
  unfold collect
  refine wpAny_bind (wpAny_runValue (codeAny_builtin entry_proto_collect' ?_))
  show wpAny _ _ (do again (.builtin "list.__iadd__" ⟨[← newList [], .ref l], []⟩)) _ _ s
  refine wpAny_bind (wpAny_newList (wpAny_pure ⟨Code.quiet_builtin _ (by decide +kernel), codeAny_builtin entry_list_iadd' ?_⟩))
  show wpAny _ _ (Builtin.List.listExtendWith (.ref s.heap.objs.size) (.ref l) (.ref s.heap.objs.size)) _ _ { s with heap := s.heap.push (seqObj "list" #[] 0) }
  unfold Builtin.List.listExtendWith
  have ho' : (s.heap.push (seqObj "list" #[] 0)).get? l = some o := Heap.get?_push_of_some _ ho
  refine wpAny_bind (wpAny_typeOf (T := "tuple") ⟨o, ho', hc⟩ ?_)
  have ht : (Value.type "tuple" == Value.type "tuple") = true := by rfl
  rw [if_pos (by rw [ht]; simp)]
  refine wpAny_bind (listItems_at ho' hd ?_)
  refine wpAny_bind (listItems_at (xs := #[]) (n := 0) (Heap.get?_push_size _ rfl) rfl ?_)
  rw [if_neg (by simp)]
  refine wpAny_bind (listUpdate_at (xs := #[]) (n := 0) (Heap.get?_push_size _ rfl) rfl ?_ (Nat.zero_le _) (by show (#[] ++ vs.toArray).size ≤ sizeLine + 1; simp only [Array.size_append, List.size_toArray, List.length_nil]; omega))
  refine wpAny_pure ?_
  show wpAny (model prog w) A (do
      let o ← load s.heap.objs.size
      match o.data with
      | .seq xs _ => pure xs.toList
      | _ => unsupported "internal:collect") Q E { s with heap := (s.heap.push (seqObj "list" #[] 0)).update s.heap.objs.size (Obj.mapSeq (· ++ vs.toArray)) }
  refine wpAny_bind (wpAny_load (get?_update_seq (Heap.get?_push_size _ rfl) _) ?_)
  show wpAny _ _ (pure ((#[] : Array Value) ++ vs.toArray).toList) Q E _
  rw [show ((#[] : Array Value) ++ vs.toArray).toList = vs by simp]
  exact wpAny_pure h
theorem sorted_tup {l : Addr} {vs : List Value} {ltv : Value -> Value -> Bool} {Q : Value -> Shared -> Prop} (O : Swo ltv) (hl : s.heap.IsTuple l vs.toArray) (hz : vs.length ≤ sizeLine)
    (hS : 2 ≤ vs.length -> ∀ (h₁ : Heap) (a : Addr), h₁.get? a = some (seqObj "list" vs.toArray 0) -> (∀ b o, s.heap.get? b = some o -> b ≠ a ∧ h₁.get? b = some o) -> SortableO prog w A.in1.in1 { s with heap := h₁ } a vs ltv)
    (h : ∀ out : List Value, Srtd ltv out -> Stb ltv out vs -> Q (.ref (s.heap.objs.size + 1)) { s with heap := sortedAll s.heap vs out.toArray }) :
    wpAny (model prog w) A (call (.builtin "sorted") [.ref l]) Q E s := by
  refine Calls.call_function_entry kind_sorted plain_sorted entry_sorted (args_sorted1 _) ?_
  unfold Builtin.«sorted»
  refine wpAny_bind (m := checkCount "sorted" 1 1 _) (wpAny_pure ?_)
  refine wpAny_bind (Zdw hl hz ?_)
  refine wpAny_bind (wpAny_newList ?_ hz)
  have hsz : ((s.heap.push (seqObj "list" #[] 0)).update s.heap.objs.size (Obj.mapSeq (· ++ vs.toArray))).objs.size = s.heap.objs.size + 1 := by
    rw [Heap.size_update, size_push']
  have hoL : (((s.heap.push (seqObj "list" #[] 0)).update s.heap.objs.size (Obj.mapSeq (· ++ vs.toArray))).push (seqObj "list" vs.toArray 0)).get? (s.heap.objs.size + 1) = some (seqObj "list" vs.toArray 0) := by
    rw [← hsz]; exact Heap.get?_push_size _ rfl
  have keep : ∀ b o, s.heap.get? b = some o -> b ≠ s.heap.objs.size + 1 ∧ (((s.heap.push (seqObj "list" #[] 0)).update s.heap.objs.size (Obj.mapSeq (· ++ vs.toArray))).push (seqObj "list" vs.toArray 0)).get? b = some o := fun b o q => by
    have hlt : b < s.heap.objs.size := Heap.lt_size q
    refine ⟨Nat.ne_of_lt (Nat.lt_succ_of_lt hlt), Heap.get?_push_of_some _ ?_⟩
    rw [Heap.get?_update_ne _ _ _ _ (Nat.ne_of_lt hlt)]
    exact Heap.get?_push_of_some _ q
  show wpAny _ _ _ _ _ { s with heap := ((s.heap.push (seqObj "list" #[] 0)).update s.heap.objs.size (Obj.mapSeq (· ++ vs.toArray))).push (seqObj "list" vs.toArray 0) }
  rw [hsz]
  refine wpAny_bind (wpAny_holding (wpAny_call_entry slot_list_sort ⟨_, hoL, rfl⟩ entry_list_sort (list_sort_ord O hoL hz (fun h2 => hS h2 _ _ hoL keep) fun out hs hb => ⟨_, rfl, ?_⟩) (args_list_sort _)))
  exact wpAny_pure ⟨_, rfl, h out hs hb⟩
end
end DZ
namespace DM
open PySem PySem.Spec PyProof.Rows L2 DL DS
def nubI : List Int -> List Int
  | [] => []
  | x :: r => if x ∈ r then nubI r else x :: nubI r
theorem mem_nubI {k : Int} : ∀ {l}, k ∈ nubI l ↔ k ∈ l
  | [] => Iff.rfl
  | x :: r => by
    unfold nubI
    split
    · rename_i hx
      rw [mem_nubI, List.mem_cons]
      exact ⟨.inr, fun z => z.elim (fun e => e ▸ hx) id⟩
    · rw [List.mem_cons, List.mem_cons, mem_nubI]
theorem Z7k : ∀ l, (nubI l).Nodup
  | [] => .nil
  | x :: r => by
    unfold nubI
    split
    · exact Z7k r
    · rename_i hx
      exact List.nodup_cons.mpr ⟨fun z => hx (mem_nubI.mp z), Z7k r⟩
def Zgr (l : List Int) : List Int := Zfm (nubI l)
theorem Zbn {l ns : List Int} (h : ns.Pairwise (· < ·)) (hm : ∀ k, k ∈ ns ↔ k ∈ l) : ns = Zgr l := by
  refine Za7 ?_ (h.imp fun h => Int.le_of_lt h)
  refine (List.perm_ext_iff_of_nodup (h.imp fun h => Int.ne_of_lt h) (Z7k l)).mpr fun k => ?_
  rw [mem_nubI]; exact hm k
section
variable {X : Cx}
theorem Zk6 (hc : X.calm = true) : CallR X (.type "set") (fun vs H Q => ∃ (p : Addr) (ns : List Int), vs = [V.ref p] ∧ SqT X.K H p (ns.map V.int) ∧ ns.length < 64 ∧ ∀ D c, H D = none -> c ≤ ns.length -> Q (.ref D) (upd H D (SetO X.w D (fun j => decide (j ∈ ns)) c))) := by
  intro pins s σ H vs us Q I r h
  obtain ⟨p, ns, rfl, hs, h64, q⟩ := h
  obtain ⟨its, rv, hl, _⟩ := I.tuple hs
  rw [Vals.ref1 r]
  refine call_set_tupI ns (I.ok.hd hc) hl (by simpa using rv.ints) (Nat.lt_of_lt_of_le (show ns.length + 1 < 65 by omega) (by decide)) fun h' tk c R hcl k => ?_
  exact ⟨.ref _, upd H s.heap.objs.size (SetO X.w s.heap.objs.size (fun j => decide (j ∈ ns)) c), I.laid (t' := tk) k (Nat.le_refl _) (setO_new R), rfl, q _ _ (I.hok.fresh (Nat.le_refl _)) hcl⟩
theorem Zdu : CallR X (.builtin "sorted") (fun vs H Q => ∃ (a : Addr) (ns : List Int), vs = [V.ref a] ∧ SqT X.K H a (ns.map V.int) ∧ ∀ (p : Addr), H p = none -> Q (.ref p) (upd H p (.lst ((Zfm ns).map V.int)))) := by
  intro pins s σ H vs us Q I r h
  obtain ⟨a, ns, rfl, hs, q⟩ := h
  obtain ⟨its, rv, hl, hz⟩ := I.tuple hs
  rw [Vals.ref1 r]
  have hi := rv.ints
  refine DZ.sorted_tup SrtO.swo_int hl (by rw [← rv.length]; exact hz) (fun h2 h₁ a' _ _ => SrtO.ints_sortable hi h2) fun out h1 h2 => ?_
  obtain ⟨k1, k2, k3⟩ := SrtO.ints_out hi h1 h2
  obtain ⟨ep, he'⟩ := PyProof.Rows.sortedAll_at s.heap its out.toArray
  have hlen : ((out.map SrtO.iv).map V.int).length ≤ sizeLine := by
    rw [List.length_map, k2.length_eq]
    rw [List.length_map] at hz
    exact hz
  have e := Za7 k2 k3
  refine ⟨.ref _, upd H (s.heap.objs.size + 1) (.lst ((out.map SrtO.iv).map V.int)), I.laid (t' := s.toks) (fun _ _ => PyProof.Rows.sortedAll_old) (Nat.le_succ _) ⟨hlen, out, ep, vals_of_ints k1, he'⟩, rfl, ?_⟩
  rw [e]
  exact q _ (I.hok.fresh (Nat.le_succ _))
end
def Zeb : List D -> Option D
  | [.tup ds] => (intsOf ds).map fun ns => .lst ((Zfm ns).map .int)
  | _ => none
theorem Zdx {K : PySem.W.Frag} : Z9h K (fun vs H Q => ∃ (a : Addr) (ns : List Int), vs = [V.ref a] ∧ SqT K H a (ns.map V.int) ∧ ∀ (p : Addr), H p = none -> Q (.ref p) (upd H p (.lst ((Zfm ns).map V.int)))) Zeb := by
  intro B F H σ env xs as c Q s hx hg q
  unfold Zeb at hg
  split at hg
  · rename_i ds
    cases hn : intsOf ds with
    | none => rw [hn] at hg; cases hg
    | some ns =>
      rw [hn] at hg
      cases hg
      obtain ⟨v, rfl, hv⟩ := hx.one
      obtain ⟨a, ys, rfl, h1, h2⟩ := hv.tup s.ex
      rw [Z5w hn] at h2
      rw [Z78 h2] at h1
      refine ⟨a, ns, rfl, h1, fun p hl => ?_⟩
      exact q _ F _ (Ex.refl F) (Ex.new hl) (s.newN hl (Do.lst (Z4q _))).1 (s.newN hl (Do.lst (Z4q _))).2
  · cases hg
section
variable {X : Cx} {K : PySem.W.Frag} {E : XE} {β γ : Type} {xF : Fm} {xb : β} {env : Fm} {e : Expr} {p1 p2 pos1 pos2 : Pos} {cs : (D -> R β γ) -> R β γ}
def Z9s : D -> Option D
  | .tup ds => (intsOf ds).bind fun ns => if ns.length < 64 then some (.lst ((Zgr ns).map .int)) else none
  | _ => none
theorem Zcy (ha : AL X K E xF xb env e cs) (hc : X.calm = true) (hm : X.mg "sorted" = none) (hm2 : X.mg "set" = none) (hg : Gl X "sorted") (hg2 : Gl X "set")
    (he : starEach [.Call (.Name "set" p1) [e] [] pos1] X.env = (false, eval (.Call (.Name "set" p1) [e] [] pos1) X.env) :: starEach [] X.env := by rfl) (he2 : starEach [e] X.env = (false, eval e X.env) :: starEach [] X.env := by rfl) :
    AN X K E xF xb env [] (.Call (.Name "sorted" p2) [.Call (.Name "set" p1) [e] [] pos1] [] pos2) (fun (k : D -> R β γ) => cs fun x => R.lft (Z9s x) k) :=
  ⟨ha.1, fun B F H σ Q k G s w gx hk hG => by
    refine ⟨_, pe_callB (cr_sortedSet hc) hg hm rfl (pa_cons (pe_callTy (Zk6 hc) hg2 hm2 rfl (pa_cons pe_C pa_nil he2) (by decide) (by decide) he2 rfl) pa_nil he) (by decide) (by decide) he rfl, ?_⟩
    refine ha.2 B F H σ _ _ G s w gx (fun x v F1 H1 h1 e1 eh1 s1 d1 => ?_) hG
    cases hx : Z9s x with
    | none => rw [hx] at h1; exact (gx.no h1).elim
    | some d =>
      rw [hx] at h1
      unfold Z9s at hx
      split at hx
      · rename_i ds
        obtain ⟨ns, q1, hx⟩ := Option.bind_eq_some_iff.mp hx
        by_cases h64 : ns.length < 64
        · rw [if_pos h64] at hx
          cases hx
          rw [Z5w q1] at d1
          obtain ⟨a, ys, rfl, g1, g2⟩ := d1.tup s1.ex
          rw [Z78 g2] at g1
          rw [← ha.1] at g1
          refine ⟨a, ns, rfl, g1, h64, fun D0 c hD hcl => ⟨D0, _, c, rfl, upd_same, Nat.lt_of_le_of_lt hcl h64, fun ms p hp hm hl hn => ?_⟩⟩
          obtain rfl : ms = Zgr ns := Zbn hp fun k => by rw [hm, decide_eq_true_eq]
          have s2 := s1.growH (o := SetO X.w D0 (fun j => decide (j ∈ ns)) c) hD
          exact hk _ _ F1 _ h1 e1 (eh1.trans ((Ex.new hD).trans (Ex.new hn))) (s2.newN hn (Do.lst (Z4q _))).1 (s2.newN hn (Do.lst (Z4q _))).2
        · rw [if_neg h64] at hx; cases hx
      · cases hx⟩
end
end DM
namespace DM
open PySem PySem.Spec PyProof.Rows L2 DL
def R.callL {β γ : Type} (m : R Unit (D × List D)) (xb : β) (k : D -> R β γ) : R β γ := match m with
  | .ok (d, _) => k d
  | .ex x _ => .ex x xb
  | .no => .no
section
variable {X : Cx} {K : PySem.W.Frag} {E : XE} {β γ : Type} {xF : Fm} {xb : β} {env : Fm} {e e2 : Expr} {pos p : Pos} {k : Nat} {x : Str} {gs : List Str} {c1 c2 : (D -> R β γ) -> R β γ}
theorem Zlz {B : Bs} {F H : Hp} {σ : L2.St} {v : V} {d o : D} {Q : VK} {Ek : XK} {mL : List D -> R (List D) (D × List D)} {q : Addr} {S : List Addr} {ft : Nat -> List Addr} (s : SR K B F H σ env) (hf : Hs K B F H σ env ft) (hO : Own K F H q o gs S) (hS : ∀ a ∈ S, F a = none ∧ (B.H0 a = none ∨ B.ps a)) (hn : ∀ a ∈ S, ¬ owned env ft a) (hd : Dr K F v d)
    (hok : ∀ r os, mL [d, o] = .ok (r, os) -> ∀ u F' H', Ex F F' -> (∀ a o, H a = some o -> a ∉ S -> H' a = some o) -> SR K B F' H' σ env -> Dr K F' u r -> Q u H')
    (hex : ∀ y os, mL [d, o] = .ex y os -> ∀ c dd F' H', Ex F F' -> SR K B F' H' σ env -> XR K F' y c dd -> Ek c dd H') (hno : mL [d, o] ≠ .no) : spM K [none, some gs] none mL [v, .ref q] H Q Ek := by
  let B' : Bs := ⟨F, H, fun a => a ∈ S, Z33 [v, .ref q]⟩
  have hA : DrA K F [v, .non] [d, .non] := .cons hd (.cons .non .nil)
  have sa : SR K B' F H ([v, V.non].map some) ([d, D.non].map .fz) := SR.args s.ex hA rfl rfl
  obtain ⟨fa, ha⟩ := sa.own
  have sc := sa.putE ha 1 (p := q) (S := S) (t := some 1) (d := o) (fs := gs) hO (fun a ha => ⟨(hS a ha).1, Or.inr ha⟩) (fun a _ z => Zjk z) (fun k hk => by cases hk; rfl)
  have sc : SR K B' F H ([v, V.ref q].map some) [.fz d, .ow (some 1) o gs] := sc
  refine ⟨rfl, F, [d, o], fun a => a ∈ S, rfl, sc, ?_⟩
  cases hm : mL [d, o] with
  | no => exact hno hm
  | ex y os => exact fun c dd F' H' e1 s1 x1 => hex y os hm c dd F' H' e1 (s.afterE hf hS hn s1 rfl rfl (fun p hp => hp)).1 x1
  | ok r =>
    obtain ⟨r, os⟩ := r
    exact fun u F' H' e1 s1 r1 => hok r os hm u F' H' e1 (fun a o ha hna => s1.keep a o ha hna) (s.afterE hf hS hn s1 rfl rfl (fun p hp => hp)).1 r1
theorem Znv {mf : List D -> R Unit (D × List D)} (Fn : Dfn X.prog X.w K X.mg X.base k x [none, some gs] none (Lm mf)) (ha : AE X K E xF xb env e c1) (hb : AN X K E xF xb env gs e2 c2) (hr : Room k X.A) (hG : Quiet X.A) (hx : ∀ σ, PassesAt (L2.CX X.prog X.w) X σ (E σ)) (hg : Gl X x)
    (hdb : (x == ("__debug__" : Str)) = false := by decide) (he : starEach [e, e2] X.env = (false, eval e X.env) :: starEach [e2] X.env := by rfl) (he2 : starEach [e2] X.env = (false, eval e2 X.env) :: starEach [] X.env := by rfl) (hpl : (backTo pos (starEach [e2] X.env)).any (·.1) = false := by rfl) :
    AE X K E xF xb env (.Call (.Name x p) [e, e2] [] pos) (fun (k : D -> R β γ) => c1 fun d => c2 fun w => R.callL (mf [d, w]) xb k) := by
  have hK := ha.1
  subst hK
  obtain ⟨f, fd, ps, h1, h2, h3, h4⟩ := Fn.ex
  refine ⟨rfl, fun B F H σ Q k G s w gx hk hG' => ⟨_, Z5p h1 hr hG hg h2 h3 h4 .nil hx (pa_cons pe_C (pa_cons pe_C pa_nil he2) he) hdb he hpl, ?_⟩⟩
  refine ha.2 B F H σ _ _ G s w gx (fun d v F1 H1 r1 e1 eh1 s1 d1 => ?_) hG'
  obtain ⟨ft, hf⟩ := s1.own
  refine hb.2 (B.at F1 H1 env ft) F1 H1 σ _ _ G (s1.rebase hf) w ⟨gx.no, fun y hy cc dd F' H' e' s' => gx.ex y hy cc dd F' H' (e1.trans e') (s1.unbase hf (fun _ _ z => z) s')⟩ (fun o u F2 H2 r2 e2 eh2 s2 n2 => ?_) r1
  obtain ⟨q, S, rfl, hO, hS, hn⟩ := n2
  obtain ⟨ft2, hf2⟩ := s2.own
  show spM X.K [none, some gs] none (Lm mf) ([v, .ref q] ++ []) H2 Q (E σ)
  rw [List.append_nil]
  have hnS : ∀ a o, H1 a = some o -> a ∉ S := fun a o hH z => by
    rcases (hS a z).2 with y | y
    · have y : H1 a = none := y
      rw [hH] at y; cases y
    · obtain ⟨j, t', d', f', k1, k2⟩ := y
      obtain ⟨p3, k3, k4, _⟩ := hf2.ow j t' d' f' k1
      obtain ⟨p4, k5, k6, _⟩ := hf.ow j t' d' f' k1
      rw [k3] at k5
      cases k5
      rw [Z2w k6 eh2 k4] at k2
      exact hn ft2 hf2 a z ⟨j, t', d', f', k1, k2⟩
  have hno : mf [d, o] ≠ .no := fun z => by rw [z] at r2; exact gx.no r2
  refine Zlz s2 hf2 hO hS (hn ft2 hf2) (d1.mono e2) (fun r os hm u F' H' e3 hk3 s3 d3 => ?_) (fun y os hm c dd F' H' e3 s3 x3 => ?_) (fun z => ?_)
  · unfold Lm at hm
    cases hq : mf [d, o] with
    | no => exact absurd hq hno
    | ex _ _ => rw [hq] at hm; cases hm
    | ok z =>
      obtain ⟨z1, z2⟩ := z
      rw [hq] at hm r2
      cases hm
      exact hk r u F' H' r2 (e1.trans (e2.trans e3)) (fun a o ha => hk3 a o (eh2 a o (eh1 a o ha)) (hnS a o (eh1 a o ha))) (s1.unbase hf (fun _ _ z => z) s3) d3
  · unfold Lm at hm
    cases hq : mf [d, o] with
    | no => exact absurd hq hno
    | ok z => rw [hq] at hm; cases hm
    | ex y' z =>
      rw [hq] at hm r2
      cases hm
      exact gx.ex y r2 c dd F' H' (e1.trans (e2.trans e3)) ((s1.unbase hf (fun _ _ z => z) s3).wk w) x3
  · unfold Lm at z
    cases hq : mf [d, o] with
    | no => exact hno hq
    | ok _ => rw [hq] at z; cases z
    | ex _ _ => rw [hq] at z; cases z
end
end DM
namespace PW
open PySem L2 DM PL
inductive Wd where
  | out | mark | wait | empty | down | let_ | lock | unlock | bare | tried | locked | in_ | ahead | none | touched | used | stuck | kept
deriving DecidableEq
def Wd.s : Wd -> Str
  | .out => "out" | .mark => "mark" | .wait => "wait" | .empty => "empty" | .down => "down" | .let_ => "let" | .lock => "lock" | .unlock => "unlock"
  | .bare => "bare" | .tried => "tried" | .locked => "locked" | .in_ => "in" | .ahead => "ahead" | .none => "none" | .touched => "touched" | .used => "used" | .stuck => "stuck" | .kept => "kept"
def wd (a : Wd) : D := .str a.s
theorem Zny : ∀ a b : Wd, a.s = b.s -> a = b := by
  intro a b
  cases a <;> cases b <;> first | (intro _; rfl) | (intro h; exact absurd h (by decide +kernel))
theorem encW : Enc wd 0 := Z8f (w := Wd.s) (fun a => by cases a <;> decide +kernel) Zny
theorem eqW (a b : Wd) : eqG (wd a) (wd b) = some (.bl (decide (a = b))) := encW.eqG (by decide) a b
theorem neW (a b : Wd) : neG (wd a) (wd b) = some (.bl (!decide (a = b))) := encW.neG (by decide) a b
theorem inWt (a : Wd) (ws : List Wd) : inA (wd a) (.tup (ws.map wd)) = some (.bl (decide (a ∈ ws))) := encW.in_t (by decide) a ws
theorem niWl (a : Wd) (ws : List Wd) : Z39 (wd a) (.lst (ws.map wd)) = some (.bl (!decide (a ∈ ws))) := encW.ni_l (by decide) a ws
theorem niWt (a : Wd) (ws : List Wd) : Z39 (wd a) (.tup (ws.map wd)) = some (.bl (!decide (a ∈ ws))) := encW.ni_t (by decide) a ws
def eight : List Wd := [.out, .mark, .wait, .empty, .down, .let_, .lock, .unlock]
theorem Zr1 : D.str "out" = wd .out := id rfl
theorem Zo0 : D.str "mark" = wd .mark := id rfl
theorem w_wait : D.str "wait" = wd .wait := id rfl
theorem w_empty : D.str "empty" = wd .empty := id rfl
theorem Zo3 : D.str "down" = wd .down := id rfl
theorem Zr2 : D.str "let" = wd .let_ := id rfl
theorem w_lock : D.str "lock" = wd .lock := id rfl
theorem Zj0 : D.str "unlock" = wd .unlock := id rfl
theorem Zks : D.str "bare" = wd .bare := id rfl
theorem Zln : D.str "tried" = wd .tried := id rfl
theorem Z6s : D.str "locked" = wd .locked := id rfl
theorem w_in : D.str "in" = wd .in_ := id rfl
theorem Zgf : D.str "ahead" = wd .ahead := id rfl
theorem Znz : D.str "none" = wd .none := id rfl
theorem isW (a : Wd) : isiG [wd a, .ty "str"] = some (.bl true) := id rfl
def pr (p : Nat × Nat) : D := .tup [.int p.1, .int p.2]
def gapsF (ws : List Wd) : List (Nat × Nat) := if .lock ∈ ws then (if .unlock ∈ ws then [(0, ws.idxOf .lock), (ws.idxOf .unlock + 1, ws.length)] else [(0, ws.idxOf .lock)]) else [(0, ws.length)]
theorem h_out : Wd.out ∈ eight := by decide
theorem h_mark : Wd.mark ∈ eight := by decide
theorem Zlb : Wd.wait ∈ eight := by decide
theorem Zay : Wd.empty ∈ eight := by decide
theorem h_down : Wd.down ∈ eight := by decide
theorem h_let : Wd.let_ ∈ eight := by decide
theorem h_lock : Wd.lock ∈ eight := by decide
theorem h_unlock : Wd.unlock ∈ eight := by decide
def openT (ws : List Wd) (p : Nat × Nat) : Bool := decide (p.1 ≤ ws.idxOf .out) && decide (max p.1 (ws.idxOf .empty + 1) ≤ min p.2 (ws.idxOf .let_))
def openF (o : Wd) (ws : List Wd) : List (Nat × Nat) :=
  if .empty ∈ ws then
    (0, ws.idxOf .empty) :: (if o = .locked then (match (gapsF ws).find? (openT ws) with | some p => [(max p.1 (ws.idxOf .empty + 1), ws.length)] | none => [])
      else if ws.idxOf .empty + 1 ≤ ws.idxOf .let_ then [(ws.idxOf .empty + 1, ws.length)] else [])
  else [(0, ws.length)]
def ublF (ws : List Wd) : Bool := [Wd.mark, .wait, .empty].any fun w => decide (w ∈ ws) && decide (ws.idxOf .let_ < ws.idxOf w)
def gapT (ws : List Wd) (lo hi : Nat) (p : Nat × Nat) : Bool := decide (max lo p.1 ≤ min p.2 (ws.idxOf .mark)) && decide (max (max lo p.1) (ws.idxOf .down + 1) ≤ min p.2 hi)
def strT (a : Wd) (ws : List Wd) (hi : Nat) (p : Nat × Nat) : Bool := (decide (a ≠ .in_) || decide (p.1 ≤ ws.idxOf .mark)) && decide (max p.1 (ws.idxOf .down + 1) ≤ min p.2 hi)
def touchF (a : Wd) (ws : List Wd) (lo hi : Nat) : Bool :=
  if a = .locked then (gapsF ws).any (gapT ws lo hi)
  else if a = .ahead ∧ ws.idxOf .mark < lo then false
  else [(lo, ws.idxOf .wait), (max lo (ws.idxOf .wait + 1), ws.length)].any (strT a ws hi)
def usedF (o : Wd) (ws : List Wd) : Bool :=
  decide (.let_ ∈ ws) && (ublF ws || (if o = .locked then (gapsF ws).any fun p => decide (p.1 ≤ ws.idxOf .out) && decide (ws.idxOf .let_ + 1 ≤ p.2) else decide (o = .bare)))
theorem Zk0 (ws : List Wd) : (gapsF ws).length ≤ 2 := by
  unfold gapsF
  split
  · split <;> simp
  · simp
theorem open_len (o : Wd) (ws : List Wd) : (openF o ws).length ≤ 2 := by
  unfold openF
  split
  · split
    · cases (gapsF ws).find? (openT ws) <;> simp
    · split <;> simp
  · simp
def stuckF (o a : Wd) (ws : List Wd) : Bool :=
  decide (.lock ∈ ws) && ((decide (a = .locked) && decide (.empty ∈ ws) && decide (ws.idxOf .lock < ws.idxOf .empty) && decide (ws.idxOf .empty < ws.idxOf .unlock)) ||
    (!decide (.unlock ∈ ws) && (decide (o = .locked) || decide (a = .locked)) && (!ublF ws || !decide (.empty ∈ ws) || decide ((openF o ws).length = 2))))
def fw (t u s k : Bool) : List Wd := (if t then [.touched] else []) ++ (if u then [.used] else []) ++ (if s then [.stuck] else []) ++ (if k then [.kept] else [])
def touchA (o a : Wd) (ws : List Wd) : Bool := (openF o ws).any fun p => touchF a ws p.1 p.2
def isL (w : Wd) : Bool := decide (w = .lock) || decide (w = .unlock)
structure Good (ws : List Wd) : Prop where
  nd : ws.Nodup
  mem : ∀ w ∈ ws, w ∈ eight
  lk : ws.filter isL = [] ∨ ws.filter isL = [.lock] ∨ ws.filter isL = [.lock, .unlock]
theorem ix_in {ws : List Wd} {w : Wd} : w ∈ ws ↔ ws.idxOf w < ws.length := List.idxOf_lt_length_iff.symm
theorem ix_drop {ws : List Wd} {w : Wd} {k : Nat} (h : w ∈ ws) (hk : k ≤ ws.idxOf w) : w ∈ ws.drop k := by
  have hl := ix_in.mp h
  refine List.mem_of_getElem? (i := ws.idxOf w - k) ?_
  rw [List.getElem?_drop, show k + (ws.idxOf w - k) = ws.idxOf w by omega, List.getElem?_eq_getElem hl]
  simp
theorem Good.split {a b : List Wd} {x : Wd} (h : Good (a ++ x :: b)) : x ∉ a ∧ (x = .unlock -> Wd.lock ∈ a) ∧ (x = .lock -> Wd.unlock ∉ a) := by
  have h1 : x ∉ a := fun z => (List.nodup_append.mp h.nd).2.2 x z x List.mem_cons_self rfl
  refine ⟨h1, fun e => ?_, fun e z => ?_⟩
  · subst e
    have hl := h.lk
    rw [List.filter_append, List.filter_cons_of_pos (by decide)] at hl
    have : a.filter isL = [.lock] := by
      rcases hl with q | q | q
      · simp at q
      · rcases hf : a.filter isL with _ | ⟨y, r⟩ <;> rw [hf] at q <;> simp at q
      · rcases hf : a.filter isL with _ | ⟨y, _ | ⟨z, r⟩⟩ <;> rw [hf] at q <;> simp at q
        rw [q.1]
    have hm : Wd.lock ∈ a.filter isL := by rw [this]; exact List.mem_cons_self
    exact (List.mem_filter.mp hm).1
  · subst e
    have hm : Wd.unlock ∈ a.filter isL := List.mem_filter.mpr ⟨z, by decide⟩
    have hl := h.lk
    rw [List.filter_append, List.filter_cons_of_pos (by decide)] at hl
    rcases hf : a.filter isL with _ | ⟨y, r⟩
    · rw [hf] at hm; cases hm
    · rw [hf] at hl
      rcases hl with q | q | q
      · simp at q
      · simp at q
      · rcases r with _ | ⟨z, r⟩ <;> simp at q
theorem Zhy {ws : List Wd} {i : Nat} {x : Wd} (h : ws[i]? = some x) : ws = ws.take i ++ x :: ws.drop (i + 1) := by
  obtain ⟨hi, e⟩ := List.getElem?_eq_some_iff.mp h
  rw [← e, List.getElem_cons_drop, List.take_append_drop]
def ins (ws : List Wd) (i : Nat) (w : Wd) : List Wd := ws.take i ++ [w] ++ ws.drop i
theorem ins_mem {ws : List Wd} {i : Nat} {w x : Wd} : x ∈ ins ws i w ↔ x = w ∨ x ∈ ws := by
  unfold ins
  rw [List.mem_append, List.mem_append, List.mem_singleton]
  have e : x ∈ ws ↔ x ∈ ws.take i ∨ x ∈ ws.drop i := by
    conv => lhs; rw [← List.take_append_drop i ws]
    exact List.mem_append
  rw [e]
  constructor
  · rintro ((h | h) | h)
    · exact .inr (.inl h)
    · exact .inl h
    · exact .inr (.inr h)
  · rintro (h | h | h)
    · exact .inl (.inr h)
    · exact .inl (.inl h)
    · exact .inr h
theorem Zpp {ws : List Wd} {i : Nat} {w : Wd} (h : ws.Nodup) (hw : w ∉ ws) : (ins ws i w).Nodup := by
  unfold ins
  have e : (ws.take i ++ [w] ++ ws.drop i).Perm (w :: ws) := by
    have e1 : (w :: ws).Perm (w :: (ws.take i ++ ws.drop i)) := by rw [List.take_append_drop]
    rw [List.append_assoc]
    exact (List.perm_middle).trans e1.symm
  exact e.nodup_iff.mpr (List.nodup_cons.mpr ⟨hw, h⟩)
theorem Zn1 {ws : List Wd} {i : Nat} {w : Wd} : (ins ws i w).length = ws.length + 1 := by
  unfold ins
  simp only [List.length_append, List.length_take, List.length_singleton, List.length_drop]
  omega
def six : List Wd := [.out, .mark, .wait, .empty, .down, .let_]
structure Six (n : Nat) (ws : List Wd) : Prop where
  nd : ws.Nodup
  mem : ∀ w ∈ ws, w ∈ six.take n
  len : ws.length ≤ n
theorem Zen {w : Wd} (h : w ∈ six) : isL w = false := by
  unfold six at h
  simp only [List.mem_cons, List.not_mem_nil, or_false] at h
  rcases h with rfl | rfl | rfl | rfl | rfl | rfl <;> decide
theorem Six.good {n : Nat} {ws : List Wd} (h : Six n ws) : Good ws where
  nd := h.nd
  mem w hw := by
    have := List.mem_of_mem_take (h.mem w hw)
    unfold six at this
    simp only [List.mem_cons, List.not_mem_nil, or_false] at this
    rcases this with rfl | rfl | rfl | rfl | rfl | rfl <;> decide
  lk := by
    left
    rw [List.filter_eq_nil_iff]
    intro w hw
    rw [Zen (List.mem_of_mem_take (h.mem w hw))]
    decide
theorem Zgs {n : Nat} {ws : List Wd} {w : Wd} {i : Nat} (h : Six n ws) (hw : six[n]? = some w) : Six (n + 1) (ins ws i w) := by
  have hn : n < 6 := by
    rcases Nat.lt_or_ge n 6 with q | q
    · exact q
    · rw [List.getElem?_eq_none (by exact q)] at hw; cases hw
  have hs : w ∉ six.take n ∧ w ∈ six.take (n + 1) := by
    have : n = 0 ∨ n = 1 ∨ n = 2 ∨ n = 3 ∨ n = 4 ∨ n = 5 := by omega
    rcases this with rfl | rfl | rfl | rfl | rfl | rfl <;> cases hw <;> decide
  refine ⟨Zpp h.nd fun z => hs.1 (h.mem w z), fun x hx => ?_, by rw [Zn1]; have := h.len; omega⟩
  rcases ins_mem.mp hx with rfl | hx
  · exact hs.2
  · have := h.mem x hx
    rw [List.take_add_one]
    exact List.mem_append_left _ this
theorem Six.up {n : Nat} {ws : List Wd} (h : Six n ws) : Six (n + 1) ws := ⟨h.nd, fun w hw => by rw [List.take_add_one]; exact List.mem_append_left _ (h.mem w hw), by have := h.len; omega⟩
theorem Zpq {β γ : Type} (ws : List Wd) (i : Nat) (w : Wd) (hl : ws.length ≤ 100) (k : D -> R β γ) : (R.lft (slG (.lst (ws.map wd)) none (some (i : Int))) fun x => R.few [wd w] fun l => R.lft (addA x (.lst l)) fun y => R.asI (.int (i : Int)) fun j => R.lft (slG (.lst (ws.map wd)) (some j) none) fun z => R.lft (addA y z) k) = k (.lst ((ins ws i w).map wd)) := by
  unfold ins
  simp only [sl_lst, Zfb, Zli, lft_some, few1, add_lst, asI_int, List.length_take, List.length_map, List.length_cons, List.length_nil, List.length_append, List.length_drop]
  rw [if_pos (by omega), lft_some]
  simp only [add_lst, List.length_append, List.length_take, List.length_map, List.length_cons, List.length_nil, List.length_drop]
  rw [if_pos (by omega), lft_some]
  simp [List.map_take, List.map_drop]
theorem Zjp {A B C E : List Wd} (h : (A ++ B ++ C).Nodup) (hm : ∀ w ∈ A ++ B ++ C, w ∈ six) (hE : E = [] ∨ E = [.unlock]) : Good (A ++ [.lock] ++ B ++ E ++ C) := by
  have hp : (A ++ [Wd.lock] ++ B ++ E ++ C).Perm (.lock :: (E ++ (A ++ B ++ C))) := List.perm_iff_count.mpr fun x => by
    simp only [List.count_append, List.count_cons, List.count_nil]
    omega
  have n1 : Wd.lock ∉ A ++ B ++ C := fun z => by have := Zen (hm _ z); revert this; decide
  have n2 : Wd.unlock ∉ A ++ B ++ C := fun z => by have := Zen (hm _ z); revert this; decide
  have f0 : ∀ {l : List Wd}, (∀ w ∈ l, w ∈ six) -> l.filter isL = [] := fun {l} hl => by
    rw [List.filter_eq_nil_iff]
    intro w hw
    rw [Zen (hl w hw)]; decide
  have hA : ∀ w ∈ A, w ∈ six := fun w hw => hm w (List.mem_append_left _ (List.mem_append_left _ hw))
  have hB : ∀ w ∈ B, w ∈ six := fun w hw => hm w (List.mem_append_left _ (List.mem_append_right _ hw))
  have hC : ∀ w ∈ C, w ∈ six := fun w hw => hm w (List.mem_append_right _ hw)
  have m8 : ∀ w ∈ six, w ∈ eight := by decide
  refine ⟨hp.nodup_iff.mpr ?_, fun w hw => ?_, ?_⟩
  · rcases hE with rfl | rfl
    · exact List.nodup_cons.mpr ⟨n1, h⟩
    · refine List.nodup_cons.mpr ⟨?_, List.nodup_cons.mpr ⟨n2, h⟩⟩
      intro z
      rcases List.mem_cons.mp z with q | q
      · cases q
      · exact n1 q
  · rcases List.mem_cons.mp (hp.mem_iff.mp hw) with rfl | hw
    · decide
    · rcases List.mem_append.mp hw with hw | hw
      · rcases hE with rfl | rfl
        · cases hw
        · rcases List.mem_singleton.mp hw with rfl; decide
      · exact m8 w (hm w hw)
  · rw [List.filter_append, List.filter_append, List.filter_append, List.filter_append, f0 hA, f0 hB, f0 hC]
    rcases hE with rfl | rfl
    · exact .inr (.inl (by decide))
    · exact .inr (.inr (by decide))
end PW
namespace RR
open PySem L2 DM PL
inductive Wd | look | hold | try_ | let_ | enter | leave | touch | use | lock | unlock | start | ask
deriving DecidableEq
def Wd.s : Wd -> Str
  | .look => "look" | .hold => "hold" | .try_ => "try" | .let_ => "let" | .enter => "enter" | .leave => "leave" | .touch => "touch" | .use => "use" | .lock => "lock" | .unlock => "unlock" | .start => "start" | .ask => "ask"
inductive Nm | w | v | gone | m | x | y | z | a | b | c | d
deriving DecidableEq
def Nm.s : Nm -> Str
  | .w => "w" | .v => "v" | .gone => "gone" | .m => "m" | .x => "x" | .y => "y" | .z => "z" | .a => "a" | .b => "b" | .c => "c" | .d => "d"
inductive Sx | look | hold | try_ | let_ | enter | leave | touch | use | lock | unlock | start (n : Nm) | o1 | o2 | o3 | o4 | o5 | o6 | o7 | o8 | o9 | o10
deriving DecidableEq
def Sx.d : Sx -> D
  | .look => .tup [.str "look"] | .hold => .tup [.str "hold"] | .try_ => .tup [.str "try"] | .let_ => .tup [.str "let"] | .enter => .tup [.str "enter"] | .leave => .tup [.str "leave"] | .touch => .tup [.str "touch"] | .use => .tup [.str "use"] | .lock => .tup [.str "lock"] | .unlock => .tup [.str "unlock"]
  | .start n => .tup [.str "start", .str n.s]
  | .o1 => .non | .o2 => .int 5 | .o3 => .str "look" | .o4 => .tup [.str "Look"] | .o5 => .lst [.str "look"] | .o6 => .tup [.str "start"] | .o7 => .tup [.str "start", .str "A"] | .o8 => .tup [.str "ask", .str "m", .lst []] | .o9 => .tup [] | .o10 => .tup [.str "ask", .str "", .tup []]
def Sx.w : Sx -> Wd
  | .look => .look | .hold => .hold | .try_ => .try_ | .let_ => .let_ | .enter => .enter | .leave => .leave | .touch => .touch | .use => .use | .lock => .lock | .unlock => .unlock | .start _ => .start | _ => .ask
def Sx.short : Sx -> Bool
  | .let_ | .enter | .leave | .touch | .use | .lock | .unlock | .start _ => true
  | _ => false
def Sx.item : Sx -> Bool
  | .look | .hold | .try_ => true
  | x => x.short
abbrev Sn := Option Sx
def snD : Sn -> D
  | none => .tup [.str "ask", .str "m", .tup []]
  | some x => x.d
def Z56 : Sn -> Bool
  | none => false
  | some x => x.short
inductive It | s (x : Sx) | ask (n : Nm) (xs : List Sn)
deriving DecidableEq
def It.d : It -> D
  | .s x => x.d
  | .ask n xs => .tup [.str "ask", .str n.s, .tup (xs.map snD)]
def It.w : It -> Wd
  | .s x => x.w
  | .ask _ _ => .ask
def It.size : It -> Nat
  | .s _ => 1
  | .ask _ xs => 1 + xs.length
def snI : Sn -> It
  | none => .ask .m []
  | some x => .s x
@[simp] theorem snI_d (x : Sn) : (snI x).d = snD x := by cases x <;> rfl
def allX : List Sx := [.look, .hold, .try_, .let_, .enter, .leave, .touch, .use, .lock, .unlock, .start .w, .start .v, .start .gone, .start .m, .start .x, .start .y, .start .z, .start .a, .start .b, .start .c, .start .d, .o1, .o2, .o3, .o4, .o5, .o6, .o7, .o8, .o9, .o10]
theorem Zkd (x : Sx) : x ∈ allX := by
  cases x with
  | start n => cases n <;> decide
  | _ => decide
def allN : List Sn := none :: allX.map some
theorem Z8i (x : Sn) : x ∈ allN := by
  cases x with
  | none => exact List.mem_cons_self
  | some x => exact List.mem_cons_of_mem _ (List.mem_map_of_mem (Zkd x))
theorem Zk4 : (allN.all fun a => (pd (snD a)).canLay0 && decide ((pd (snD a)).depth ≤ 2) && allN.all fun b => PyData.eqv (pd (snD a)) (pd (snD b)) == decide (a = b)) = true := by decide +kernel
theorem encN : Enc snD 2 := by
  have h := List.all_eq_true.mp Zk4
  refine ⟨fun a => ?_, fun a => ?_, fun a b => ?_⟩
  · have := h a (Z8i a); simp only [Bool.and_eq_true] at this; exact this.1.1
  · have := h a (Z8i a); simp only [Bool.and_eq_true, decide_eq_true_eq] at this; exact this.1.2
  · have := h a (Z8i a); simp only [Bool.and_eq_true] at this
    have := List.all_eq_true.mp this.2 b (Z8i b)
    exact eq_of_beq this
theorem encX : Enc Sx.d 2 := ⟨fun a => encN.ok (some a), fun a => encN.dep (some a), fun a b => by
  have := encN.eq (some a) (some b)
  simp only [Option.some.injEq] at this
  exact this⟩
theorem enc_nm : Enc (fun n : Nm => D.str n.s) 0 := Z8f (fun a => by cases a <;> decide +kernel) (fun a b h => by cases a <;> cases b <;> first | rfl | (exact absurd h (by decide +kernel)))
theorem encW : Enc (fun n : Wd => D.str n.s) 0 := Z8f (fun a => by cases a <;> decide +kernel) (fun a b h => by cases a <;> cases b <;> first | rfl | (exact absurd h (by decide +kernel)))
theorem Zgl (x : Sx) (n : Nm) (ds : List D) : PyData.eqv (pd x.d) (pd (.tup [.str "ask", .str n.s, .tup ds])) = false := by
  cases x with
  | o10 => cases n <;> rfl
  | start k => simp [Sx.d, pd, pds, PyData.eqv, PyData.eqvAll]
  | _ => simp [Sx.d, pd, pds, PyData.eqv, PyData.eqvAll] <;> rfl
theorem Zim (x : Sx) (n : Nm) (ds : List D) : PyData.eqv (pd (.tup [.str "ask", .str n.s, .tup ds])) (pd x.d) = false := by
  cases x with
  | o10 => cases n <;> rfl
  | start k => simp [Sx.d, pd, pds, PyData.eqv, PyData.eqvAll]
  | _ => simp [Sx.d, pd, pds, PyData.eqv, PyData.eqvAll] <;> rfl
theorem encI : Enc It.d 4 where
  ok a := by
    cases a with
    | s x => exact encX.ok x
    | ask n xs =>
      have h1 := encN.tup.ok xs
      have h2 := enc_nm.ok n
      have h3 := encW.ok .ask
      show (pd (.tup [.str "ask", .str n.s, .tup (xs.map snD)])).canLay0 = true
      simp only [pd, PyData.canLay0]
      refine Z7t fun d hd => ?_
      simp only [pds, List.mem_cons, List.not_mem_nil, or_false] at hd
      rcases hd with rfl | rfl | rfl
      · exact h3
      · exact h2
      · exact h1
  dep a := by
    cases a with
    | s x => exact Nat.le_trans (encX.dep x) (by decide)
    | ask n xs =>
      have h1 := encN.tup.dep xs
      have h2 := enc_nm.dep n
      have h3 := encW.dep .ask
      show (pd (.tup [.str "ask", .str n.s, .tup (xs.map snD)])).depth ≤ 4
      simp only [pd, PyData.depth]
      have : PyData.depthAll (pds [.str "ask", .str n.s, .tup (xs.map snD)]) ≤ 3 := Z9z fun d hd => by
        simp only [pds, List.mem_cons, List.not_mem_nil, or_false] at hd
        rcases hd with rfl | rfl | rfl
        · exact Nat.le_trans h3 (by decide)
        · exact Nat.le_trans h2 (by decide)
        · exact h1
      omega
  eq a b := by
    cases a with
    | s x =>
      cases b with
      | s y => rw [show decide (It.s x = It.s y) = decide (x = y) by simp]; exact encX.eq x y
      | ask n xs => rw [show decide (It.s x = It.ask n xs) = false by simp]; exact Zgl x n _
    | ask n xs =>
      cases b with
      | s y => rw [show decide (It.ask n xs = It.s y) = false by simp]; exact Zim y n _
      | ask m ys =>
        have h1 := encN.tup.eq xs ys
        have h2 := enc_nm.eq n m
        have h3 := encW.eq .ask .ask
        show PyData.eqv (pd (.tup [.str "ask", .str n.s, .tup (xs.map snD)])) (pd (.tup [.str "ask", .str m.s, .tup (ys.map snD)])) = _
        rw [pd, pd, PyData.eqv]
        simp only [pds, PyData.eqvAll]
        have h3' : PyData.eqv (pd (.str "ask")) (pd (.str "ask")) = true := by rw [show (("ask" : String) : Str) = Wd.s .ask from rfl, h3]; rfl
        rw [h1, h2, h3', Bool.eq_iff_iff]
        simp
def It.isAsk : It -> Bool
  | .s _ => false
  | .ask _ _ => true
theorem Zrl {x : Sx} (h : x.item = true) : ixG x.d (.int 0) = some (.str x.w.s) := by
  cases x <;> first | rfl | cases h
theorem Zrm (n : Nm) (xs : List Sn) : ixG (It.ask n xs).d (.int 0) = some (.str "ask") := id rfl
def optD : Option Nat -> D
  | none => .non
  | some i => .int (i : Nat)
def sizes (xs : List It) : Nat := (xs.map It.size).sum
theorem Zj3 {β γ : Type} (x y z : D) (k : D -> D -> D -> R β γ) : R.tup3 (.tup [x, y, z]) k = k x y z := id rfl
theorem Zjj (o : Option Nat) : Z4u (optD o) .non = some (.bl o.isSome) := by cases o <;> rfl
theorem Zn0 (o : Option Nat) : isNG (optD o) .non = some (.bl o.isNone) := by cases o <;> rfl
def It.good : It -> Bool
  | .s x => x.item
  | .ask _ xs => decide (xs.length ≤ 4) && xs.all Z56
theorem Z9x {x : It} (h : x.good = true) : ixG x.d (.int 0) = some (.str x.w.s) := by
  cases x with
  | s x => exact Zrl h
  | ask n xs => exact Zrm n xs
end RR
namespace RR
open PySem L2 DM PL
structure PS where
  h : Bool
  u : Bool
  l : Bool
deriving DecidableEq
def PS.z : PS := ⟨false, false, false⟩
def PS.lets (p : PS) (w : Wd) (last : Bool) : Bool := match w with
  | .look | .hold | .try_ => false
  | .let_ => p.h && (last && (!p.u && !p.l))
  | .enter => !p.u
  | .leave => p.u
  | .lock => !p.l
  | .unlock => p.l
  | _ => true
def PS.goes (p : PS) (w : Wd) : PS := match w with
  | .hold | .try_ => ⟨true, p.u, p.l⟩
  | .let_ => ⟨false, p.u, p.l⟩
  | .enter => ⟨p.h, true, p.l⟩
  | .leave => ⟨p.h, false, p.l⟩
  | .lock => ⟨p.h, p.u, true⟩
  | .unlock => ⟨p.h, p.u, false⟩
  | _ => p
def PS.opn (p : PS) : Bool := p.u || p.l
abbrev En := It × PS
def enD (e : En) : D := .tup [e.1.d, .bl e.2.h, .bl e.2.u, .bl e.2.l]
def endS (p : PS) : List Sn -> PS
  | [] => p
  | x :: r => endS (p.goes (snI x).w) r
def entS (p : PS) : List Sn -> List En
  | [] => []
  | x :: r => (snI x, p) :: entS (p.goes (snI x).w) r
def It.outs : It -> List Sn
  | .s _ => []
  | .ask _ ys => ys
def endI (p : PS) : List It -> PS
  | [] => p
  | x :: r => endI (p.goes x.w) r
def entI (p : PS) : List It -> List En
  | [] => []
  | x :: r => (x, p) :: entS (p.goes x.w) x.outs ++ entI (p.goes x.w) r
def opsL : List (List Wd) := [[.look, .hold], [.look, .try_], [.lock, .look, .hold, .unlock], [.lock, .look, .try_, .unlock], [.lock, .look, .unlock, .hold], [.lock, .look, .unlock, .try_]]
def opC (ws : List Wd) (c : Nat) : Bool := opsL.any fun o => decide (c ≤ ws.length) && decide (o.take c = ws.take c)
def Zre (ws : List Wd) : Nat × Bool := match [4, 3, 2, 1].find? (opC ws) with
  | some c => (c, decide (ws.take c ∈ opsL))
  | none => (0, false)
def openF (xs : List It) : Nat × Bool := Zre ((xs.take 4).map It.w)
def nxS (at_ e : Nat) : Nat -> List Sn -> List (List Nat)
  | _, [] => []
  | k, _ :: r => [if r = [] then e else at_ + k + 2] :: nxS at_ e (k + 1) r
def nxI (e : Nat) : Nat -> List It -> List (List Nat)
  | _, [] => []
  | n, x :: r => (if x.isAsk = true then [n + x.size, if x.outs = [] then e else n + 1] else [n + 1]) :: nxS n e 0 x.outs ++ nxI e (n + x.size) r
def nxD (l : List Nat) : D := .tup (l.map fun n => .int (n : Nat))
def rowD (C : Str) (op : Nat) (xs : List It) : D := .obj C [("own_items", .tup (xs.map It.d)), ("own_opening", .int (op : Nat)), ("own_entries", .lst ((entI .z xs).map enD)), ("own_nexts", .lst ((nxI (sizes xs) 0 xs).map nxD))]
theorem Z46 (x : It) : x.size = 1 + x.outs.length := by cases x <;> rfl
theorem Z3i (x : It) (r : List It) : sizes (x :: r) = x.size + sizes r := by simp [sizes]
theorem Zbo (a b : List It) : sizes (a ++ b) = sizes a + sizes b := by simp [sizes]
theorem Z72 : ∀ xs : List It, xs.length ≤ sizes xs
  | [] => by simp [sizes]
  | x :: r => by have := Z72 r; rw [Z3i, List.length_cons, Z46]; omega
def okS (p : PS) : List Sn -> Bool
  | [] => !p.opn
  | x :: r => p.lets (snI x).w r.isEmpty && okS (p.goes (snI x).w) r
def okI (op : Nat) (p : PS) : List It -> Bool
  | [] => !p.opn
  | x :: r => (decide (0 < op) || p.lets x.w r.isEmpty) && ((!x.isAsk || okS (p.goes x.w) x.outs) && okI (op - 1) (p.goes x.w) r)
def okN (op : Nat) (p : PS) : List It -> Bool
  | [] => true
  | x :: r => (decide (0 < op) || p.lets x.w false) && ((!x.isAsk || okS (p.goes x.w) x.outs) && okN (op - 1) (p.goes x.w) r)
end RR
namespace RR
open PySem L2 DM PL
def bases (u l : Bool) : List (List Sx) := if u && l then [[.unlock, .leave], [.leave, .unlock]] else [(if l then [Sx.unlock] else []) ++ (if u then [Sx.leave] else [])]
def Zd8 : List (List It) := [[.s .look, .s .hold], [.s .look, .s .try_], [.s .lock, .s .look, .s .hold, .s .unlock], [.s .lock, .s .look, .s .try_, .s .unlock], [.s .lock, .s .look, .s .unlock, .s .hold], [.s .lock, .s .look, .s .unlock, .s .try_]]
theorem Zek : ∀ o ∈ Zd8, o.map It.w ∈ opsL ∧ okN o.length .z o = true ∧ endI .z o = ⟨true, false, false⟩ ∧ sizes o = o.length ∧ (∀ x ∈ o, x.good = true) ∧ o ≠ [] ∧ 2 ≤ o.length ∧ o.length ≤ 4 := by decide
def nmOk (ws ms : List Nm) : It -> Bool
  | .s (.start n) => decide (n ∈ ws)
  | .s _ => true
  | .ask n ys => decide (n ∈ ms) && ys.all fun y => match y with
    | some (.start n) => decide (n ∈ ws)
    | _ => true
theorem Zfo {x : Sx} (h : x.short = true) : x.item = true := by cases x <;> first | rfl | cases h
structure HandOk (ws ms : List Nm) (xs : List It) : Prop where
  ex : ∃ o ∈ Zd8, ∃ r, xs = o ++ r
  good : ∀ x ∈ xs, x.good = true
  size : sizes xs ≤ 14
  nm : ∀ x ∈ xs, nmOk ws ms x = true
  rule : ∀ o r, o ∈ Zd8 -> xs = o ++ r -> okI 0 ⟨true, false, false⟩ r = true
theorem Zfr : ∀ o ∈ Zd8, ∀ o' ∈ Zd8, ∀ r r' : List It, o ++ r = o' ++ r' -> o = o' := by
  intro o ho o' ho' r r' h
  simp only [Zd8, List.mem_cons, List.not_mem_nil, or_false] at ho ho'
  rcases ho with rfl | rfl | rfl | rfl | rfl | rfl <;> rcases ho' with rfl | rfl | rfl | rfl | rfl | rfl <;> first | rfl | (simp at h)
structure WorkOk (ws ms : List Nm) (xs : List It) : Prop where
  ne : xs ≠ []
  good : ∀ x ∈ xs, x.good = true
  size : sizes xs ≤ 9
  nm : ∀ x ∈ xs, nmOk ws ms x = true
  rule : okI 0 .z xs = true
inductive St | out | mark (n : Nm) | wait | empty | down | let_ | bar (n : Nm) | forget (n : Nm) | idle (n : Nm) | lock | unlock | o1 | o2 | o3 | o4 | o5 | o6 | o7 | o8
deriving DecidableEq
def St.d : St -> D
  | .out => .tup [.str "out"] | .mark n => .tup [.str "mark", .str n.s] | .wait => .tup [.str "wait"]
  | .empty => .tup [.str "empty"] | .down => .tup [.str "down"] | .let_ => .tup [.str "let"] | .bar n => .tup [.str "bar", .str n.s]
  | .forget n => .tup [.str "forget", .str n.s] | .idle n => .tup [.str "idle", .str n.s] | .lock => .tup [.str "lock"] | .unlock => .tup [.str "unlock"]
  | .o1 => .non | .o2 => .tup [.str "mark"] | .o3 => .tup [.str "hold"] | .o4 => .lst [.str "out"] | .o5 => .tup [.str "out", .str "a"]
  | .o6 => .tup [.str "bar", .str "A"] | .o7 => .tup [] | .o8 => .str "out"
def St.word : St -> Str
  | .out => "out" | .mark _ => "mark" | .wait => "wait" | .empty => "empty" | .down => "down" | .let_ => "let" | .bar _ => "bar"
  | .forget _ => "forget" | .idle _ => "idle" | .lock => "lock" | .unlock => "unlock" | _ => "x"
def St.good : St -> Bool
  | .o1 | .o2 | .o3 | .o4 | .o5 | .o6 | .o7 | .o8 => false
  | _ => true
def St.once : St -> Bool
  | .out | .down | .let_ | .mark _ => true
  | _ => false
def St.again : St -> Bool
  | .wait | .empty | .bar _ | .forget _ | .idle _ => true
  | _ => false
def allNm : List Nm := [.w, .v, .gone, .m, .x, .y, .z, .a, .b, .c, .d]
def allS : List St := [.out, .wait, .empty, .down, .let_, .lock, .unlock, .o1, .o2, .o3, .o4, .o5, .o6, .o7, .o8] ++ allNm.map .mark ++ allNm.map .bar ++ allNm.map .forget ++ allNm.map .idle
theorem Z8h (x : St) : x ∈ allS := by
  cases x with
  | mark n => cases n <;> decide
  | bar n => cases n <;> decide
  | forget n => cases n <;> decide
  | idle n => cases n <;> decide
  | _ => decide
theorem Zk3 : (allS.all fun a => (pd a.d).canLay0 && decide ((pd a.d).depth ≤ 1) && allS.all fun b => PyData.eqv (pd a.d) (pd b.d) == decide (a = b)) = true := by decide +kernel
theorem encS : Enc St.d 1 := by
  have h := List.all_eq_true.mp Zk3
  refine ⟨fun a => ?_, fun a => ?_, fun a b => ?_⟩
  · have := h a (Z8h a); simp only [Bool.and_eq_true] at this; exact this.1.1
  · have := h a (Z8h a); simp only [Bool.and_eq_true, decide_eq_true_eq] at this; exact this.1.2
  · have := h a (Z8h a); simp only [Bool.and_eq_true] at this
    have := List.all_eq_true.mp this.2 b (Z8h b)
    exact eq_of_beq this
theorem sx0 {x : St} (h : x.good = true) : ixG x.d (.int 0) = some (.str x.word) := by cases x <;> first | rfl | cases h
theorem inSt (a : St) (xs : List St) : inA a.d (.tup (xs.map St.d)) = some (.bl (decide (a ∈ xs))) := encS.in_t (by decide) a xs
theorem Zfa {α : Type} (e : α -> D) (xs : List α) (i : Nat) : cutD (xs.map e) none (some (i : Int)) = (xs.take i).map e := by rw [Zfb, List.map_take]
def lkF : Bool -> List St -> Bool
  | _, [] => true
  | has, x :: r => !(decide (x = .lock) && has || decide (x = .unlock) && !has) && lkF (decide (x = .lock) || has && !decide (x = .unlock)) r
def stOk (ws ms : List Nm) : St -> Bool
  | .mark n => decide (n ∈ ms)
  | .bar n | .forget n | .idle n => decide (n ∈ ws)
  | x => x.good
structure PullOk (ws ms : List Nm) (xs : List St) : Prop where
  good : ∀ x ∈ xs, x.good = true
  len : xs.length ≤ 9
  once : (xs.filter St.once).Nodup
  lk : lkF false xs = true
  nm : ∀ x ∈ xs, stOk ws ms x = true
end RR
namespace SC
open PySem DM PL RR
open L2 hiding It St PS
abbrev La := It × Nat × Nat × PS
def laD (e : La) : D := .lst [e.1.d, .int (e.2.1 : Nat), .int (e.2.2.1 : Nat), .bl e.2.2.2.h, .bl e.2.2.2.u, .bl e.2.2.2.l]
def laS (n e : Nat) (p : PS) : Nat -> List Sn -> List La
  | _, [] => []
  | k, y :: r => (snI y, if r = [] then e else n + 2 + k, if r = [] then e else n + 2 + k, p) :: laS n e (p.goes (snI y).w) (k + 1) r
def laI (e : Nat) (p : PS) (n : Nat) : List It -> List La
  | [] => []
  | x :: r => (x, n + x.size, if x.outs = [] then e else n + 1, p) :: laS n e (p.goes x.w) 0 x.outs ++ laI e (p.goes x.w) (n + x.size) r
theorem Zau : ∀ (ys : List Sn) (n e : Nat) (p : PS) (k : Nat), (laS n e p k ys).length = ys.length
  | [], _, _, _, _ => rfl
  | y :: r, n, e, p, k => by rw [laS, List.length_cons, Zau r, List.length_cons]
theorem Zdh : ∀ (xs : List It) (e n : Nat) (p : PS), (laI e p n xs).length = sizes xs
  | [], _, _, _ => rfl
  | x :: r, e, n, p => by
    rw [laI, List.length_append, List.length_cons, Zau, Zdh r, Z3i, Z46]; omega
theorem short_good {y : Sn} (h : Z56 y = true) : (snI y).good = true := by
  cases y with
  | none => cases h
  | some y => exact Zfo h
theorem Zgu {y : Sn} (h : Z56 y = true) : (snI y).isAsk = false := by
  cases y with
  | none => cases h
  | some y => rfl
theorem good_outs {x : It} (h : x.good = true) : ∀ y ∈ x.outs, Z56 y = true := by
  cases x with
  | s x => intro y hy; cases hy
  | ask n xs =>
    simp only [It.good, Bool.and_eq_true, List.all_eq_true] at h
    exact h.2
theorem Zex : ∀ (ys : List Sn) (n e : Nat) (p : PS) (k : Nat), (∀ y ∈ ys, Z56 y = true) -> ∀ z ∈ laS n e p k ys, z.1.good = true
  | [], _, _, _, _, _, z, hz => by cases hz
  | y :: r, n, e, p, k, h, z, hz => by
    rcases List.mem_cons.mp hz with rfl | hz
    · exact short_good (h y List.mem_cons_self)
    · exact Zex r _ _ _ _ (fun z hz => h z (List.mem_cons_of_mem _ hz)) z hz
theorem Zez : ∀ (xs : List It) (e n : Nat) (p : PS), (∀ x ∈ xs, x.good = true) -> ∀ z ∈ laI e p n xs, z.1.good = true
  | [], _, _, _, _, z, hz => by cases hz
  | x :: r, e, n, p, h, z, hz => by
    rw [laI, List.mem_append, List.mem_cons] at hz
    rcases hz with (rfl | hz) | hz
    · exact h x List.mem_cons_self
    · exact Zex _ _ _ _ _ (good_outs (h x List.mem_cons_self)) z hz
    · exact Zez r _ _ _ (fun z hz => h z (List.mem_cons_of_mem _ hz)) z hz
def tab (xs : List It) : List La := laI (sizes xs) .z 0 xs
def ent (xs : List It) (p : Nat) : La := (tab xs).getD p (.s .touch, 0, 0, .z)
theorem Zd3 (xs : List It) : (tab xs).length = sizes xs := Zdh _ _ _ _
theorem Zdt {xs : List It} {p : Nat} (h : p < sizes xs) : (tab xs)[p]? = some (ent xs p) := by
  unfold ent
  rw [List.getD_eq_getElem?_getD, List.getElem?_eq_getElem (by rw [Zd3]; exact h)]
  rfl
theorem Z7r {xs : List It} {p : Nat} (h : p < sizes xs) : ent xs p ∈ tab xs := List.mem_of_getElem? (Zdt h)
theorem Z5l {xs : List It} (hg : ∀ x ∈ xs, x.good = true) {p : Nat} (h : p < sizes xs) : (ent xs p).1.good = true := Zez _ _ _ _ hg _ (Z7r h)
theorem Zl7 : ∀ (ys : List Sn) (n e : Nat) (p : PS) (k : Nat), n + 1 + k + ys.length ≤ e -> ∀ z ∈ laS n e p k ys, z.2.1 ≤ e ∧ z.2.2.1 ≤ e
  | [], _, _, _, _, _, z, hz => by cases hz
  | y :: r, n, e, p, k, h, z, hz => by
    rw [List.length_cons] at h
    rcases List.mem_cons.mp hz with rfl | hz
    · cases r with
      | nil => simp
      | cons a b => simp only [List.length_cons] at h; simp; omega
    · exact Zl7 r _ _ _ _ (by omega) z hz
theorem Zl9 : ∀ (xs : List It) (e n : Nat) (p : PS), n + sizes xs ≤ e -> ∀ z ∈ laI e p n xs, z.2.1 ≤ e ∧ z.2.2.1 ≤ e
  | [], _, _, _, _, z, hz => by cases hz
  | x :: r, e, n, p, h, z, hz => by
    rw [Z3i] at h
    have hx := Z46 x
    rw [laI, List.mem_append, List.mem_cons] at hz
    rcases hz with (rfl | hz) | hz
    · refine ⟨by show n + x.size ≤ e; omega, ?_⟩
      show (if x.outs = [] then e else n + 1) ≤ e
      split <;> omega
    · exact Zl7 _ _ _ _ _ (by omega) z hz
    · exact Zl9 r _ _ _ (by omega) z hz
theorem Zlg {xs : List It} {p : Nat} (h : p < sizes xs) : (ent xs p).2.1 ≤ sizes xs ∧ (ent xs p).2.2.1 ≤ sizes xs := Zl9 xs _ 0 _ (by omega) _ (Z7r h)
def Zqw (t : List La) (o : Nat) (e : Nat) (z : La) : Prop := ∀ q, (q = z.2.1 ∨ (z.1.isAsk = true ∧ q = z.2.2.1)) -> q = e ∨ (o ≤ q ∧ ∃ z', t[q - o]? = some z' ∧ z'.2.2.2 = z.2.2.2.goes z.1.w)
theorem Zew {ys : List Sn} {n e k : Nat} {p : PS} (h : ys ≠ []) : ∃ z', (laS n e p k ys)[0]? = some z' ∧ z'.2.2.2 = p := by
  cases ys with
  | nil => exact absurd rfl h
  | cons y r => exact ⟨_, rfl, rfl⟩
theorem Zjw {xs : List It} {n e : Nat} {p : PS} (h : xs ≠ []) : ∃ z', (laI e p n xs)[0]? = some z' ∧ z'.2.2.2 = p := by
  cases xs with
  | nil => exact absurd rfl h
  | cons y r => exact ⟨_, rfl, rfl⟩
theorem Zcf : ∀ (ys : List Sn) (n e : Nat) (p : PS) (k : Nat) (t : List La), (∀ y ∈ ys, Z56 y = true) -> ∀ z ∈ laS n e p k ys, Zqw (laS n e p k ys ++ t) (n + 1 + k) e z
  | [], _, _, _, _, _, _, z, hz => by cases hz
  | y :: r, n, e, p, k, t, hy, z, hz => by
    rcases List.mem_cons.mp hz with rfl | hz
    · intro q hq
      have ha := Zgu (hy y List.mem_cons_self)
      rcases hq with rfl | ⟨h1, _⟩
      · cases r with
        | nil => exact Or.inl rfl
        | cons a b =>
          right
          obtain ⟨z', h1, h2⟩ := Zew (ys := a :: b) (n := n) (e := e) (k := k + 1) (p := p.goes (snI y).w) (by simp)
          refine ⟨by simp only [reduceCtorEq, if_false]; omega, z', ?_, h2⟩
          rw [laS, List.cons_append]
          simp only [reduceCtorEq, if_false]
          rw [show n + 2 + k - (n + 1 + k) = 0 + 1 by omega, List.getElem?_cons_succ]
          exact h1
      · rw [ha] at h1; cases h1
    · intro q hq
      rcases Zcf r n e _ (k + 1) t (fun z hz => hy z (List.mem_cons_of_mem _ hz)) z hz q hq with h | ⟨h1, z', h2, h3⟩
      · exact Or.inl h
      · refine Or.inr ⟨by omega, z', ?_, h3⟩
        rw [laS, List.cons_append, show q - (n + 1 + k) = (q - (n + 1 + (k + 1))) + 1 by omega, List.getElem?_cons_succ]
        exact h2
theorem Zjv {ys : List Sn} {n e k i : Nat} {p : PS} {t : List La} {z : La} (h : (laS n e p k ys)[i]? = some z) : (laS n e p k ys ++ t)[i]? = some z := by
  rw [List.getElem?_append_left (List.getElem?_eq_some_iff.mp h).1]; exact h
theorem Zcg : ∀ (xs : List It) (e n : Nat) (p : PS), n + sizes xs = e -> (∀ x ∈ xs, x.good = true) -> ∀ z ∈ laI e p n xs, Zqw (laI e p n xs) n e z
  | [], _, _, _, _, _, z, hz => by cases hz
  | x :: r, e, n, p, he, hg, z, hz => by
    rw [Z3i] at he
    have hx := Z46 x
    have hl : ((x, n + x.size, if x.outs = [] then e else n + 1, p) :: laS n e (p.goes x.w) 0 x.outs : List La).length = x.size := by rw [List.length_cons, Zau, hx]; omega
    rw [laI, List.mem_append, List.mem_cons] at hz
    rcases hz with (rfl | hz) | hz
    · intro q hq
      rcases hq with rfl | ⟨h1, rfl⟩
      · cases r with
        | nil => left; simp [sizes] at he; exact he
        | cons a b =>
          right
          obtain ⟨z', h1, h2⟩ := Zjw (xs := a :: b) (n := n + x.size) (e := e) (p := p.goes x.w) (by simp)
          refine ⟨by show n ≤ n + x.size; omega, z', ?_, h2⟩
          rw [laI]
          show (_ ++ _)[n + x.size - n]? = _
          rw [List.getElem?_append_right (by rw [hl]; omega), hl, show n + x.size - n - x.size = 0 by omega]
          exact h1
      · by_cases ho : x.outs = []
        · left; show (if x.outs = [] then e else n + 1) = e; rw [if_pos ho]
        · right
          obtain ⟨z', h1, h2⟩ := Zew (ys := x.outs) (n := n) (e := e) (k := 0) (p := p.goes x.w) ho
          refine ⟨by show n ≤ (if x.outs = [] then e else n + 1); rw [if_neg ho]; omega, z', ?_, h2⟩
          show (laI e p n (x :: r))[(if x.outs = [] then e else n + 1) - n]? = _
          rw [if_neg ho, laI, List.cons_append, show n + 1 - n = 0 + 1 by omega, List.getElem?_cons_succ]
          exact Zjv h1
    · intro q hq
      rcases Zcf _ n e _ 0 (laI e (p.goes x.w) (n + x.size) r) (good_outs (hg x List.mem_cons_self)) z hz q hq with h | ⟨h1, z', h2, h3⟩
      · exact Or.inl h
      · refine Or.inr ⟨by omega, z', ?_, h3⟩
        rw [laI, List.cons_append, show q - n = (q - (n + 1 + 0)) + 1 by omega, List.getElem?_cons_succ]
        exact h2
    · intro q hq
      rcases Zcg r e (n + x.size) _ (by omega) (fun y hy => hg y (List.mem_cons_of_mem _ hy)) z hz q hq with h | ⟨h1, z', h2, h3⟩
      · exact Or.inl h
      · refine Or.inr ⟨by omega, z', ?_, h3⟩
        rw [laI, List.getElem?_append_right (by rw [hl]; omega), hl, show q - n - x.size = q - (n + x.size) by omega]
        exact h2
theorem Zcu {xs : List It} (hg : ∀ x ∈ xs, x.good = true) {p q : Nat} (h : p < sizes xs) (hq : q = (ent xs p).2.1 ∨ ((ent xs p).1.isAsk = true ∧ q = (ent xs p).2.2.1)) :
    q = sizes xs ∨ (q < sizes xs ∧ (ent xs q).2.2.2 = (ent xs p).2.2.2.goes (ent xs p).1.w) := by
  rcases Zcg xs (sizes xs) 0 .z (by omega) hg _ (Z7r h) q hq with h1 | ⟨_, z', h2, h3⟩
  · exact Or.inl h1
  · rw [Nat.sub_zero] at h2
    have hlt := (List.getElem?_eq_some_iff.mp h2).1
    rw [Zdh] at hlt
    have := Zdt hlt
    unfold tab at this
    rw [h2] at this
    cases this
    exact Or.inr ⟨hlt, h3⟩
theorem ent0 {xs : List It} (h : xs ≠ []) : (ent xs 0).2.2.2 = .z := by
  cases xs with
  | nil => exact absurd rfl h
  | cons x r => rfl
def opW (w : Wd) : Bool := match w with
  | .look | .hold | .try_ => true
  | _ => false
theorem Zar {p : PS} {w : Wd} {b : Bool} (h : p.lets w b = true) : opW w = false := by
  cases w <;> first | rfl | cases h
theorem Zl6 : ∀ (ys : List Sn) (n e : Nat) (p : PS) (k : Nat), okS p ys = true -> ∀ z ∈ laS n e p k ys, opW z.1.w = false
  | [], _, _, _, _, _, z, hz => by cases hz
  | y :: r, n, e, p, k, h, z, hz => by
    simp only [okS, Bool.and_eq_true] at h
    rcases List.mem_cons.mp hz with rfl | hz
    · exact Zar h.1
    · exact Zl6 r _ _ _ _ h.2 z hz
theorem Zl8 : ∀ (xs : List It) (e n : Nat) (p : PS), okI 0 p xs = true -> ∀ z ∈ laI e p n xs, opW z.1.w = false
  | [], _, _, _, _, z, hz => by cases hz
  | x :: r, e, n, p, h, z, hz => by
    simp only [okI, Bool.and_eq_true, Bool.or_eq_true, decide_eq_true_eq, Bool.not_eq_true'] at h
    obtain ⟨a, b, c⟩ := h
    rw [laI, List.mem_append, List.mem_cons] at hz
    rcases hz with (rfl | hz) | hz
    · rcases a with a | a
      · omega
      · exact Zar a
    · rcases b with b | b
      · cases x with
        | s x => cases hz
        | ask n ys => cases b
      · exact Zl6 _ _ _ _ _ b z hz
    · exact Zl8 r _ _ _ c z hz
theorem Zlm {ws ms : List Nm} {xs : List It} (h : WorkOk ws ms xs) : ∀ z ∈ tab xs, opW z.1.w = false := Zl8 _ _ _ _ h.rule
theorem Zhs : ∀ (ys : List Sn) (n e : Nat) (p : PS) (k : Nat), ∀ z ∈ laS n e p k ys, ∃ y ∈ ys, z.1 = snI y
  | [], _, _, _, _, z, hz => by cases hz
  | y :: r, n, e, p, k, z, hz => by
    rcases List.mem_cons.mp hz with rfl | hz
    · exact ⟨y, List.mem_cons_self, rfl⟩
    · obtain ⟨y', h1, h2⟩ := Zhs r _ _ _ _ z hz
      exact ⟨y', List.mem_cons_of_mem _ h1, h2⟩
theorem Zht : ∀ (xs : List It) (e n : Nat) (p : PS), ∀ z ∈ laI e p n xs, z.1 ∈ xs ∨ ∃ x ∈ xs, ∃ y ∈ x.outs, z.1 = snI y
  | [], _, _, _, z, hz => by cases hz
  | x :: r, e, n, p, z, hz => by
    rw [laI, List.mem_append, List.mem_cons] at hz
    rcases hz with (rfl | hz) | hz
    · exact Or.inl List.mem_cons_self
    · obtain ⟨y, h1, h2⟩ := Zhs _ _ _ _ _ z hz
      exact Or.inr ⟨x, List.mem_cons_self, y, h1, h2⟩
    · rcases Zht r _ _ _ z hz with h | ⟨x', h1, h2⟩
      · exact Or.inl (List.mem_cons_of_mem _ h)
      · exact Or.inr ⟨x', List.mem_cons_of_mem _ h1, h2⟩
theorem Zct {ws ms : List Nm} {xs : List It} (h : ∀ x ∈ xs, nmOk ws ms x = true) {p : Nat} (hp : p < sizes xs) {n : Nm} (e : (ent xs p).1 = .s (.start n)) : n ∈ ws := by
  rcases Zht xs _ _ _ _ (Z7r hp) with h1 | ⟨x, h1, y, h2, h3⟩
  · have := h _ h1
    rw [e] at this
    exact of_decide_eq_true this
  · have := h x h1
    rw [e] at h3
    cases x with
    | s x => cases h2
    | ask m ys =>
      simp only [nmOk, Bool.and_eq_true, List.all_eq_true] at this
      have := this.2 y h2
      cases y with
      | none => cases h3
      | some y =>
        simp only [snI, It.s.injEq] at h3
        subst h3
        exact of_decide_eq_true this
end SC
namespace SC
open PySem DM PL RR
open L2 hiding It St PS
structure Case where
  hs : List It
  ws : List (Nm × List It)
  ps : List St
def Case.names (c : Case) : List Nm := c.ws.map (·.1)
structure CaseOk (c : Case) (ms : List Nm) : Prop where
  nms : c.names = [] ∨ c.names = [.w] ∨ c.names = [.v, .w]
  hand : HandOk c.names ms c.hs
  work : ∀ q ∈ c.ws, WorkOk c.names ms q.2
  pull : PullOk c.names ms c.ps
  mks : ms = [.gone] ∨ ms = [.gone, .m]
structure Sta where
  came : Nat
  ins : List Nat
  jobs : List (Bool × Option Nat)
  done : Nat
  leak : Bool
deriving DecidableEq
inductive Mv | come | go (p : Nat) | begin (n : Nm) | run (n : Nm) | step
deriving DecidableEq
inductive Fw | touched | used
deriving DecidableEq
def did (c : Case) (s : Sta) (x : St) : Bool := decide (x ∈ c.ps.take s.done)
def held (c : Case) (s : Sta) : Bool := s.ins.any fun p => (ent c.hs p).2.2.2.h
def freed (c : Case) (s : Sta) : Bool := did c s .let_ && (!s.leak && !held c s)
def Z9n (xs : List St) : Bool := decide (xs.count .unlock < xs.count .lock)
def Z43 (c : Case) (s : Sta) : Bool := Z9n (c.ps.take s.done)
def jobE (q : (Nm × List It) × (Bool × Option Nat)) : Option La := q.2.2.map fun p => ent q.1.2 p
def here (c : Case) (s : Sta) : List La := s.ins.map (ent c.hs) ++ (c.ws.zip s.jobs).filterMap jobE
def free (c : Case) (s : Sta) : Bool := !(Z43 c s || (here c s).any fun z => z.2.2.2.l)
def under (c : Case) (s : Sta) : Bool := (here c s).any fun z => z.2.2.2.u
def Z2s (c : Case) (s : Sta) (n : Nm) : Bool × Option Nat := s.jobs.getD (c.names.idxOf n) (false, none)
def rowOf (c : Case) (n : Nm) : List It := (c.ws.getD (c.names.idxOf n) (n, [])).2
def Z6b (c : Case) (s : Sta) (w : Wd) : Bool := !decide (w = .lock) || free c s
def Zjr (c : Case) (s : Sta) (x : St) : Bool := match x with
  | .lock => free c s
  | .wait => !under c s
  | .empty => !s.leak && !held c s
  | .idle n => (Z2s c s n).2.isNone
  | _ => true
def nubN : List Nat -> List Nat
  | [] => []
  | x :: r => if x ∈ r then nubN r else x :: nubN r
def begE (q : (Nm × List It) × (Bool × Option Nat)) : Option Mv := if (q.2.1 && q.2.2.isNone) = true then some (.begin q.1.1) else none
def runE (c : Case) (s : Sta) (q : (Nm × List It) × (Bool × Option Nat)) : Option Mv := match q.2.2 with
  | some p => if Z6b c s (ent q.1.2 p).1.w = true then some (.run q.1.1) else none
  | none => none
def Zfk (c : Case) (s : Sta) : List Mv := match c.ps[s.done]? with
  | some x => if Zjr c s x = true then [.step] else []
  | none => []
def mvs (c : Case) (s : Sta) (top : Nat) : List Mv :=
  (if s.came < top then [.come] else []) ++ (((nubN s.ins).filter fun p => Z6b c s (ent c.hs p).1.w).map .go ++ ((c.ws.zip s.jobs).filterMap begE ++ ((c.ws.zip s.jobs).filterMap (runE c s) ++ Zfk c s)))
def Zgg (w : Wd) : Bool := match w with
  | .hold | .enter | .leave | .ask | .use | .start => true
  | _ => false
def Zgh (x : St) : Bool := match x with
  | .mark _ | .wait | .empty | .bar _ | .forget _ | .idle _ | .let_ => true
  | _ => false
def Z76 (c : Case) (s : Sta) (w : Wd) : Option Fw := if w = .touch then (if did c s .down = true then some .touched else none) else if (Zgg w && freed c s) = true then some .used else none
def Z83 (c : Case) (s : Sta) (x : St) : Option Fw := if (Zgh x && freed c s) = true then some .used else none
def fault (c : Case) (s : Sta) : Mv -> Option Fw
  | .come => none
  | .begin _ => none
  | .go p => Z76 c s (ent c.hs p).1.w
  | .run n => match (Z2s c s n).2 with
    | some p => Z76 c s (ent (rowOf c n) p).1.w
    | none => none
  | .step => match c.ps[s.done]? with
    | some x => Z83 c s x
    | none => none
def Z6a (c : Case) (s : Sta) (w : Wd) : Bool := (decide (w = .look) && did c s .out) || (decide (w = .try_) && freed c s)
def turns (c : Case) (s : Sta) : It -> Bool
  | .ask n _ => did c s (.mark n)
  | .s _ => false
def later (c : Case) (s : Sta) (xs : List It) (p : Nat) : Nat := if Z6a c s (ent xs p).1.w = true then sizes xs else if turns c s (ent xs p).1 = true then (ent xs p).2.2.1 else (ent xs p).2.1
def setJ (c : Case) (jobs : List (Bool × Option Nat)) (n : Nm) (j : Bool × Option Nat) : List (Bool × Option Nat) := jobs.set (c.names.idxOf n) j
def strt (c : Case) (s : Sta) (jobs : List (Bool × Option Nat)) : It -> List (Bool × Option Nat)
  | .s (.start n) => if did c s (.bar n) = true then jobs else setJ c jobs n (true, (jobs.getD (c.names.idxOf n) (false, none)).2)
  | _ => jobs
def insN (x : Nat) : List Nat -> List Nat
  | [] => [x]
  | y :: r => if x ≤ y then x :: y :: r else y :: insN x r
def gone (c : Case) (s : Sta) (p : Nat) : Sta :=
  if later c s c.hs p = sizes c.hs then ⟨s.came, s.ins.erase p, strt c s s.jobs (ent c.hs p).1, s.done, s.leak || (!Z6a c s (ent c.hs p).1.w && ((ent c.hs p).2.2.2.goes (ent c.hs p).1.w).h)⟩
  else ⟨s.came, insN (later c s c.hs p) (s.ins.erase p), strt c s s.jobs (ent c.hs p).1, s.done, s.leak⟩
def ran (c : Case) (s : Sta) (n : Nm) (p : Nat) : Sta :=
  ⟨s.came, s.ins, strt c s (setJ c s.jobs n ((Z2s c s n).1, if later c s (rowOf c n) p = sizes (rowOf c n) then none else some (later c s (rowOf c n) p))) (ent (rowOf c n) p).1, s.done, s.leak⟩
def Z6j (c : Case) (s : Sta) : St -> List (Bool × Option Nat)
  | .forget n => setJ c s.jobs n (false, (Z2s c s n).2)
  | _ => s.jobs
def after (c : Case) (s : Sta) : Mv -> Sta
  | .come => ⟨s.came + 1, 0 :: s.ins, s.jobs, s.done, s.leak⟩
  | .go p => gone c s p
  | .run n => match (Z2s c s n).2 with
    | some p => ran c s n p
    | none => s
  | .begin n => ⟨s.came, s.ins, setJ c s.jobs n (false, some 0), s.done, s.leak⟩
  | .step => match c.ps[s.done]? with
    | some x => ⟨s.came, s.ins, Z6j c s x, s.done + 1, s.leak⟩
    | none => s
def kept (c : Case) (s : Sta) : Bool := decide (s.done = c.ps.length) && (s.ins.isEmpty && !freed c s)
def jobL (q : (Nm × List It) × (Bool × Option Nat)) : Option (La × Option Nm) := q.2.2.map fun p => (ent q.1.2 p, some q.1.1)
def Z21 (c : Case) (s : Sta) : List (La × Option Nm) := (s.ins.map (fun p => (ent c.hs p, none)) ++ (c.ws.zip s.jobs).filterMap jobL).filter fun q => decide (q.1.1.w = Wd.lock)
def Zku (c : Case) (s : Sta) (x : St) : Bool := match x with
  | .wait => (Z21 c s).any fun q => q.1.2.2.2.u
  | .empty => (Z21 c s).any fun q => q.1.2.2.2.h
  | .idle n => (Z21 c s).any fun q => decide (q.2 = some n)
  | _ => false
def stuck (c : Case) (s : Sta) : Bool := match c.ps[s.done]? with
  | none => Z43 c s && !(Z21 c s).isEmpty
  | some x => (decide (x = .empty) && s.leak) || (Z43 c s && Zku c s x)
def start (c : Case) : Sta := ⟨0, [], c.names.map fun _ => (false, none), 0, false⟩
structure Val (c : Case) (s : Sta) : Prop where
  came : s.came ≤ 8
  ins : s.ins.length ≤ s.came
  sort : s.ins.Pairwise (· ≤ ·)
  lt : ∀ p ∈ s.ins, p < sizes c.hs
  jl : s.jobs.length = c.ws.length
  job : ∀ (i : Nat) (q : Nm × List It) (b : Bool) (p : Nat), c.ws[i]? = some q -> s.jobs[i]? = some (b, some p) -> p < sizes q.2
  done : s.done ≤ c.ps.length
section
variable {c : Case} {s : Sta} {ms : List Nm}
theorem mem_nubN {k : Nat} : ∀ {l : List Nat}, k ∈ nubN l ↔ k ∈ l
  | [] => Iff.rfl
  | x :: r => by
    unfold nubN
    split
    · rename_i hx
      rw [mem_nubN, List.mem_cons]
      exact ⟨.inr, fun z => z.elim (fun e => e ▸ hx) id⟩
    · rw [List.mem_cons, List.mem_cons, mem_nubN]
theorem Zde : ∀ {l : List Nat}, l.Pairwise (· ≤ ·) -> (nubN l).Pairwise (· < ·)
  | [], _ => .nil
  | x :: r, h => by
    obtain ⟨h1, h2⟩ := List.pairwise_cons.mp h
    unfold nubN
    split
    · exact Zde h2
    · rename_i hx
      refine List.pairwise_cons.mpr ⟨fun y hy => ?_, Zde h2⟩
      have hy := mem_nubN.mp hy
      have := h1 y hy
      have : x ≠ y := fun e => hx (e ▸ hy)
      omega
theorem Zap : ∀ l : List Nat, (nubN l).length ≤ l.length
  | [] => Nat.le_refl _
  | x :: r => by
    have := Zap r
    unfold nubN
    split
    · rw [List.length_cons]; omega
    · simp; omega
theorem Z4c (x : Nat) : ∀ l : List Nat, (insN x l).Perm (x :: l)
  | [] => .refl _
  | y :: r => by
    unfold insN
    split
    · exact .refl _
    · exact ((Z4c x r).cons y).trans (.swap x y r)
theorem Z95 {x : Nat} : ∀ {l : List Nat}, l.Pairwise (· ≤ ·) -> (insN x l).Pairwise (· ≤ ·)
  | [], _ => List.pairwise_singleton _ _
  | y :: r, h => by
    obtain ⟨h1, h2⟩ := List.pairwise_cons.mp h
    unfold insN
    split
    · rename_i hx
      refine List.pairwise_cons.mpr ⟨fun z hz => ?_, h⟩
      rcases List.mem_cons.mp hz with rfl | hz
      · exact hx
      · exact Nat.le_trans hx (h1 z hz)
    · rename_i hx
      refine List.pairwise_cons.mpr ⟨fun z hz => ?_, Z95 h2⟩
      rcases List.mem_cons.mp ((Z4c x r).mem_iff.mp hz) with rfl | hz
      · omega
      · exact h1 z hz
theorem Zf2 (x : Nat) (l : List Nat) : (insN x l).length = l.length + 1 := by rw [(Z4c x l).length_eq]; rfl
theorem Zjm (h : CaseOk c ms) : c.names.Nodup := by
  rcases h.nms with e | e | e <;> rw [e] <;> decide
theorem Zkr (h : CaseOk c ms) : c.ws.length ≤ 2 := by
  have : c.names.length ≤ 2 := by rcases h.nms with e | e | e <;> rw [e] <;> decide
  rwa [Case.names, List.length_map] at this
theorem Zcp (h : CaseOk c ms) {i : Nat} {q : Nm × List It} (e : c.ws[i]? = some q) : c.names.idxOf q.1 = i := by
  have h1 : c.names[i]? = some q.1 := by rw [Case.names, List.getElem?_map, e]; rfl
  obtain ⟨hi, h2⟩ := List.getElem?_eq_some_iff.mp h1
  rw [← h2]
  exact (Zjm h).idxOf_getElem i hi
theorem Zmo {n : Nm} (hn : n ∈ c.names) : ∃ q, c.ws[c.names.idxOf n]? = some q ∧ q.1 = n := by
  have hi := List.idxOf_lt_length_of_mem hn
  have h1 := List.getElem_idxOf hi
  have hi' : c.names.idxOf n < c.ws.length := by rwa [Case.names, List.length_map] at hi
  refine ⟨c.ws[c.names.idxOf n], List.getElem?_eq_getElem hi', ?_⟩
  have : c.names[c.names.idxOf n]? = some n := by rw [List.getElem?_eq_getElem hi, h1]
  rw [Case.names, List.getElem?_map, ← Case.names, List.getElem?_eq_getElem hi'] at this
  exact Option.some.inj this
theorem Zbu (h : CaseOk c ms) {i : Nat} {q : Nm × List It} (e : c.ws[i]? = some q) : rowOf c q.1 = q.2 := by
  unfold rowOf
  rw [Zcp h e, List.getD_eq_getElem?_getD, e]; rfl
theorem Zf1 (h : CaseOk c ms) {i : Nat} {q : Nm × List It} {j : Bool × Option Nat} (e : c.ws[i]? = some q) (ej : s.jobs[i]? = some j) : Z2s c s q.1 = j := by
  unfold Z2s
  rw [Zcp h e, List.getD_eq_getElem?_getD, ej]; rfl
theorem Zga {α β : Type} {xs : List α} {ys : List β} {q : α × β} (h : q ∈ xs.zip ys) : ∃ i : Nat, xs[i]? = some q.1 ∧ ys[i]? = some q.2 := by
  obtain ⟨i, hi, e⟩ := List.getElem_of_mem h
  rw [List.length_zip] at hi
  refine ⟨i, ?_, ?_⟩
  · rw [← e, List.getElem_zip, List.getElem?_eq_getElem (by omega)]
  · rw [← e, List.getElem_zip, List.getElem?_eq_getElem (by omega)]
def MvOk (c : Case) (s : Sta) (top : Nat) : Mv -> Prop
  | .come => s.came < top
  | .go p => p ∈ s.ins ∧ Z6b c s (ent c.hs p).1.w = true
  | .begin n => ∃ (i : Nat) (q : Nm × List It), c.ws[i]? = some q ∧ q.1 = n ∧ s.jobs[i]? = some (true, none)
  | .run n => ∃ (i : Nat) (q : Nm × List It) (b : Bool) (p : Nat), c.ws[i]? = some q ∧ q.1 = n ∧ s.jobs[i]? = some (b, some p) ∧ Z6b c s (ent q.2 p).1.w = true
  | .step => ∃ x, c.ps[s.done]? = some x ∧ Zjr c s x = true
theorem Zhf {top : Nat} {m : Mv} (h : m ∈ mvs c s top) : MvOk c s top m := by
  unfold mvs at h
  simp only [List.mem_append, List.mem_map, List.mem_filter, List.mem_filterMap] at h
  rcases h with h | ⟨p, ⟨h1, h2⟩, rfl⟩ | ⟨q, h1, h2⟩ | ⟨q, h1, h2⟩ | h
  · split at h
    · rename_i hc
      rw [List.mem_singleton.mp h]; exact hc
    · cases h
  · exact ⟨mem_nubN.mp h1, h2⟩
  · unfold begE at h2
    split at h2
    · rename_i hb
      cases h2
      rw [Bool.and_eq_true] at hb
      obtain ⟨i, e1, e2⟩ := Zga h1
      obtain ⟨q1, b, o⟩ := q
      cases o with
      | some o => cases hb.2
      | none =>
        have hb1 : b = true := hb.1
        subst hb1
        exact ⟨i, q1, e1, rfl, e2⟩
    · cases h2
  · unfold runE at h2
    obtain ⟨i, e1, e2⟩ := Zga h1
    obtain ⟨q1, b, o⟩ := q
    cases o with
    | none => cases h2
    | some p =>
      simp only at h2
      split at h2
      · rename_i hl
        cases h2
        exact ⟨i, q1, b, p, e1, rfl, e2, hl⟩
      · cases h2
  · unfold Zfk at h
    split at h
    · rename_i x hx
      split at h
      · rename_i hl
        rw [List.mem_singleton.mp h]; exact ⟨x, hx, hl⟩
      · cases h
    · cases h
theorem Zeu {xs : List It} {p : Nat} (h : p < sizes xs) : later c s xs p ≤ sizes xs := by
  have := Zlg h
  unfold later
  split
  · exact Nat.le_refl _
  · split <;> omega
theorem Za4 (jobs : List (Bool × Option Nat)) (x : It) : (strt c s jobs x).length = jobs.length := by
  unfold strt setJ
  split
  · split
    · rfl
    · rw [List.length_set]
  · rfl
theorem Za5 {jobs : List (Bool × Option Nat)} {x : It} {i : Nat} {b : Bool} {o : Option Nat} (h : (strt c s jobs x)[i]? = some (b, o)) : ∃ b', jobs[i]? = some (b', o) := by
  unfold strt setJ at h
  split at h
  · split at h
    · exact ⟨b, h⟩
    · rw [List.getElem?_set] at h
      split at h
      · rename_i hi
        split at h
        · rename_i hl
          cases h
          subst hi
          refine ⟨jobs[c.names.idxOf _].1, ?_⟩
          rw [List.getD_eq_getElem?_getD, List.getElem?_eq_getElem hl]
          rfl
        · cases h
      · exact ⟨b, h⟩
  · exact ⟨b, h⟩
theorem Zaw {jobs : List (Bool × Option Nat)} {k i : Nat} {j : Bool × Option Nat} {b : Bool} {o : Option Nat} (h : (jobs.set k j)[i]? = some (b, o)) : (i = k ∧ j = (b, o)) ∨ jobs[i]? = some (b, o) := by
  rw [List.getElem?_set] at h
  split at h
  · rename_i hi
    split at h
    · cases h; exact Or.inl ⟨hi.symm, rfl⟩
    · cases h
  · exact Or.inr h
theorem Val.after (hc : CaseOk c ms) (v : Val c s) {m : Mv} (h : MvOk c s 8 m) : Val c (after c s m) := by
  cases m with
  | come =>
    have h : s.came < 8 := h
    refine ⟨by show s.came + 1 ≤ 8; omega, by show s.ins.length + 1 ≤ s.came + 1; have := v.ins; omega, List.pairwise_cons.mpr ⟨fun _ _ => Nat.zero_le _, v.sort⟩, fun p hp => ?_, v.jl, v.job, v.done⟩
    rcases List.mem_cons.mp hp with rfl | hp
    · obtain ⟨o, ho, r, e⟩ := hc.hand.ex
      have := (Zek o ho).2.2.2.2.2.2.1
      have := Z72 c.hs
      rw [e, List.length_append] at this
      rw [e]
      omega
    · exact v.lt p hp
  | go p =>
    obtain ⟨hp, _⟩ := h
    have hl := v.lt p hp
    have hpos := List.length_pos_of_mem hp
    have he : (s.ins.erase p).length = s.ins.length - 1 := List.length_erase_of_mem hp
    have hsub : (s.ins.erase p).Sublist s.ins := List.erase_sublist
    have hq := Zeu (c := c) (s := s) hl
    show Val c (gone c s p)
    unfold gone
    split
    · exact ⟨v.came, by show (s.ins.erase p).length ≤ s.came; have := v.ins; omega, v.sort.sublist hsub, fun q hq => v.lt q (hsub.mem hq), by show (strt c s s.jobs _).length = _; rw [Za4]; exact v.jl, fun i q b p e1 e2 => by
        obtain ⟨b', e⟩ := Za5 e2
        exact v.job i q b' p e1 e, v.done⟩
    · rename_i hne
      refine ⟨v.came, by show (insN _ (s.ins.erase p)).length ≤ s.came; rw [Zf2]; have := v.ins; omega, Z95 (v.sort.sublist hsub), fun q hq' => ?_, by show (strt c s s.jobs _).length = _; rw [Za4]; exact v.jl, fun i q b p e1 e2 => by
        obtain ⟨b', e⟩ := Za5 e2
        exact v.job i q b' p e1 e, v.done⟩
      rcases List.mem_cons.mp ((Z4c _ _).mem_iff.mp hq') with rfl | hq'
      · omega
      · exact v.lt q (hsub.mem hq')
  | begin n =>
    obtain ⟨i, q, e1, rfl, e2⟩ := h
    refine ⟨v.came, v.ins, v.sort, v.lt, by show (setJ c s.jobs _ _).length = _; unfold setJ; rw [List.length_set]; exact v.jl, fun i' q' b p e3 e4 => ?_, v.done⟩
    rcases Zaw e4 with ⟨hi, hj⟩ | h4
    · cases hj
      have hm := hc.work q' (List.mem_of_getElem? e3)
      have := Z72 q'.2
      have := List.length_pos_iff.mpr hm.ne
      omega
    · exact v.job i' q' b p e3 h4
  | run n =>
    obtain ⟨i, q, b, p, e1, rfl, e2, _⟩ := h
    have hr := Zbu hc e1
    have hj := Zf1 hc e1 e2
    have hl := v.job i q b p e1 e2
    have hq := Zeu (c := c) (s := s) hl
    show Val c (match (Z2s c s q.1).2 with | some p => ran c s q.1 p | none => s)
    rw [hj]
    show Val c (ran c s q.1 p)
    unfold ran
    refine ⟨v.came, v.ins, v.sort, v.lt, by show (strt c s _ _).length = _; rw [Za4]; unfold setJ; rw [List.length_set]; exact v.jl, fun i' q' b' p' e3 e4 => ?_, v.done⟩
    obtain ⟨b2, e5⟩ := Za5 e4
    rcases Zaw e5 with ⟨hi, hj2⟩ | h4
    · rw [Zcp hc e1] at hi
      subst hi
      rw [e1] at e3
      cases e3
      rw [hr] at hj2
      have := congrArg Prod.snd hj2
      simp only at this
      split at this
      · cases this
      · cases this; omega
    · exact v.job i' q' b2 p' e3 h4
  | step =>
    obtain ⟨x, hx, _⟩ := h
    have hd := (List.getElem?_eq_some_iff.mp hx).1
    show Val c (match c.ps[s.done]? with | some x => ⟨s.came, s.ins, Z6j c s x, s.done + 1, s.leak⟩ | none => s)
    rw [hx]
    refine ⟨v.came, v.ins, v.sort, v.lt, ?_, fun i q b p e1 e2 => ?_, hd⟩
    · show (Z6j c s x).length = _
      unfold Z6j setJ
      split
      · rw [List.length_set]; exact v.jl
      · exact v.jl
    · change (Z6j c s x)[i]? = some (b, some p) at e2
      cases x with
      | forget n =>
        change (s.jobs.set (c.names.idxOf n) (false, (Z2s c s n).2))[i]? = some (b, some p) at e2
        rcases Zaw e2 with ⟨hi, hj⟩ | h4
        · subst hi
          have hp : (Z2s c s n).2 = some p := congrArg Prod.snd hj
          unfold Z2s at hp
          rw [List.getD_eq_getElem?_getD] at hp
          cases hjj : s.jobs[c.names.idxOf n]? with
          | none => rw [hjj] at hp; cases hp
          | some j =>
            rw [hjj] at hp
            obtain ⟨b', o⟩ := j
            have hp : o = some p := hp
            subst hp
            exact v.job _ q b' p e1 hjj
        · exact v.job i q b p e1 h4
      | _ => exact v.job i q b p e1 e2
theorem Val.start : Val c (start c) := by
  refine ⟨Nat.zero_le _, Nat.zero_le _, .nil, fun p hp => (nomatch hp), by simp [SC.start, Case.names], fun i q b p e1 e2 => ?_, Nat.zero_le _⟩
  unfold SC.start at e2
  rw [List.getElem?_map] at e2
  cases h : c.names[i]? with
  | none => rw [h] at e2; cases e2
  | some n => rw [h] at e2; cases e2
end
end SC
namespace SC
open PySem DM PL RR
open L2 hiding It St PS
def lkP (c : Case) (p : Nat) : Bool := (ent c.hs p).2.2.2.l
def lkJ (q : Nm × List It) (o : Option Nat) : Bool := match o with
  | some p => (ent q.2 p).2.2.2.l
  | none => false
def b2n (b : Bool) : Nat := if b = true then 1 else 0
def Z3c : List (Nm × List It) -> List (Bool × Option Nat) -> Nat
  | q :: ws, j :: js => b2n (lkJ q j.2) + Z3c ws js
  | _, _ => 0
def Z49 (c : Case) (s : Sta) : Nat := b2n (Z43 c s) + s.ins.countP (lkP c) + Z3c c.ws s.jobs
def isSt (c : Case) (s : Sta) : Bool := decide (s.ins.length ≤ s.came) && (!(s.leak && decide (s.ins.length = s.came)) && decide (Z49 c s ≤ 1))
structure Raw (c : Case) (s : Sta) : Prop where
  came : s.came ≤ 8
  few : s.ins.length ≤ 9
  sort : s.ins.Pairwise (· ≤ ·)
  lt : ∀ p ∈ s.ins, p < sizes c.hs
  jl : s.jobs.length = c.ws.length
  job : ∀ (i : Nat) (q : Nm × List It) (b : Bool) (p : Nat), c.ws[i]? = some q -> s.jobs[i]? = some (b, some p) -> p < sizes q.2
  done : s.done ≤ c.ps.length
structure Good (c : Case) (s : Sta) : Prop where
  v : Val c s
  leak : s.leak = true -> s.ins.length < s.came
  lock : Z49 c s ≤ 1
section
variable {c : Case} {s : Sta} {ms : List Nm}
theorem Raw.good (r : Raw c s) (h : SC.isSt c s = true) : Good c s := by
  unfold SC.isSt at h
  rw [Bool.and_eq_true, Bool.and_eq_true, decide_eq_true_eq, decide_eq_true_eq, Bool.not_eq_true'] at h
  obtain ⟨h1, h2, h3⟩ := h
  refine ⟨⟨r.came, h1, r.sort, r.lt, r.jl, r.job, r.done⟩, fun hl => ?_, h3⟩
  rw [hl, Bool.true_and, decide_eq_false_iff_not] at h2
  omega
theorem Zik (b : Bool) : b2n b ≤ 1 := by cases b <;> decide
theorem Zb9 {a b : Bool} (h : a = true -> b = true) : b2n a ≤ b2n b := by cases a <;> cases b <;> first | decide | (exact absurd (h rfl) (by decide))
theorem Z66 : ∀ (ws : List (Nm × List It)) (js js' : List (Bool × Option Nat)), js.map (·.2) = js'.map (·.2) -> Z3c ws js = Z3c ws js'
  | [], _, _, _ => by simp [Z3c]
  | _ :: _, [], [], _ => rfl
  | _ :: _, [], _ :: _, h => by simp at h
  | _ :: _, _ :: _, [], h => by simp at h
  | q :: ws, j :: js, j' :: js', h => by
    rw [List.map_cons, List.map_cons, List.cons.injEq] at h
    rw [Z3c, Z3c, h.1, Z66 ws js js' h.2]
theorem Z93 : ∀ (ws : List (Nm × List It)) (js : List (Bool × Option Nat)) (i : Nat) (q : Nm × List It) (j j' : Bool × Option Nat), ws[i]? = some q -> js[i]? = some j -> Z3c ws (js.set i j') + b2n (lkJ q j.2) = Z3c ws js + b2n (lkJ q j'.2)
  | [], _, _, _, _, _, h, _ => by cases h
  | _ :: _, [], _, _, _, _, _, h => by cases h
  | q0 :: ws, j0 :: js, 0, q, j, j', h, h' => by
    cases h; cases h'
    rw [List.set_cons_zero, Z3c, Z3c]; omega
  | q0 :: ws, j0 :: js, i + 1, q, j, j', h, h' => by
    have := Z93 ws js i q j j' h h'
    rw [List.set_cons_succ, Z3c, Z3c]; omega
theorem Zbj (jobs : List (Bool × Option Nat)) (x : It) : (strt c s jobs x).map (·.2) = jobs.map (·.2) := by
  unfold strt setJ
  split
  · split
    · rfl
    · rename_i n _
      apply List.ext_getElem?
      intro i
      rw [List.getElem?_map, List.getElem?_map, List.getElem?_set]
      split
      · rename_i hi
        subst hi
        split
        · rename_i hl
          rw [List.getElem?_eq_getElem hl, List.getD_eq_getElem?_getD, List.getElem?_eq_getElem hl]; rfl
        · rename_i hl
          rw [List.getElem?_eq_none (by omega)]
      · rfl
  · rfl
theorem Z7o : ∀ (ws : List (Nm × List It)) (js : List (Bool × Option Nat)), ((ws.zip js).filterMap jobE).any (fun z => z.2.2.2.l) = false -> Z3c ws js = 0
  | [], _, _ => by simp [Z3c]
  | _ :: _, [], _ => rfl
  | q :: ws, j :: js, h => by
    rw [List.zip_cons_cons, List.filterMap_cons] at h
    obtain ⟨b, o⟩ := j
    cases o with
    | none =>
      have h : ((ws.zip js).filterMap jobE).any (fun z => z.2.2.2.l) = false := h
      rw [Z3c, Z7o ws js h]; rfl
    | some p =>
      have h : ((ent q.2 p) :: (ws.zip js).filterMap jobE).any (fun z => z.2.2.2.l) = false := h
      rw [List.any_cons, Bool.or_eq_false_iff] at h
      rw [Z3c, Z7o ws js h.2]
      show b2n (ent q.2 p).2.2.2.l + 0 = 0
      rw [h.1]; rfl
theorem Z97 (h : free c s = true) : Z43 c s = false ∧ s.ins.countP (lkP c) = 0 ∧ Z3c c.ws s.jobs = 0 := by
  unfold free here at h
  rw [Bool.not_eq_true', Bool.or_eq_false_iff, List.any_append, Bool.or_eq_false_iff, List.any_map] at h
  refine ⟨h.1, ?_, Z7o _ _ h.2.2⟩
  rw [List.countP_eq_zero]
  intro p hp
  have := List.any_eq_false.mp h.2.1 p hp
  exact this
theorem Zcq {p : PS} {w : Wd} (hw : w ≠ .lock) (h : (p.goes w).l = true) : p.l = true := by
  cases w <;> first | exact absurd rfl hw | exact h | cases h
theorem Z7l {xs : List It} (hg : ∀ x ∈ xs, x.good = true) {p : Nat} (hp : p < sizes xs) (hl : later c s xs p ≠ sizes xs) : (ent xs (later c s xs p)).2.2.2 = (ent xs p).2.2.2.goes (ent xs p).1.w := by
  unfold later at hl ⊢
  split at hl
  · exact absurd rfl hl
  · rename_i hs
    rw [if_neg hs]
    split at hl
    · rename_i ht
      rw [if_pos ht]
      have ha : (ent xs p).1.isAsk = true := by
        cases e : (ent xs p).1 with
        | s x => rw [e] at ht; cases ht
        | ask n ys => rfl
      rcases Zcu hg hp (.inr ⟨ha, rfl⟩) with h | ⟨_, h⟩
      · exact absurd h hl
      · exact h
    · rename_i ht
      rw [if_neg ht]
      rcases Zcu hg hp (.inl rfl) with h | ⟨_, h⟩
      · exact absurd h hl
      · exact h
theorem Zdv {p : Nat} (hp : p ∈ s.ins) : s.ins.countP (lkP c) = b2n (lkP c p) + (s.ins.erase p).countP (lkP c) := by
  rw [(List.perm_cons_erase hp).countP_eq, List.countP_cons]
  unfold b2n; omega
theorem Zn3 (h : CaseOk c ms) : c.hs ≠ [] := by
  obtain ⟨o, ho, r, e⟩ := h.hand.ex
  have := (Zek o ho).2.2.2.2.2.1
  rw [e]
  simp [this]
theorem Zfq {x : St} (hx : c.ps[s.done]? = some x) (hl : x ≠ .lock) (h : Z9n (c.ps.take (s.done + 1)) = true) : Z43 c s = true := by
  unfold Z43
  rw [List.take_add_one, hx] at h
  unfold Z9n at h ⊢
  rw [decide_eq_true_eq] at h ⊢
  rw [show (some x).toList = [x] from rfl, List.count_append, List.count_append, List.count_singleton, List.count_singleton] at h
  have : (x == St.lock) = false := by simpa using hl
  rw [this] at h
  simp only [Bool.false_eq_true, if_false, Nat.add_zero] at h
  omega
theorem Good.after (hc : CaseOk c ms) (g : Good c s) {m : Mv} (h : MvOk c s 8 m) : Good c (after c s m) := by
  refine ⟨g.v.after hc h, ?_, ?_⟩
  · -- who leaked is gone
    cases m with
    | come => intro hl; have := g.leak hl; show s.ins.length + 1 < s.came + 1; omega
    | go p =>
      obtain ⟨hp, _⟩ := h
      have hpos := List.length_pos_of_mem hp
      have he : (s.ins.erase p).length = s.ins.length - 1 := List.length_erase_of_mem hp
      have hv := g.v.ins
      show (gone c s p).leak = true -> (gone c s p).ins.length < (gone c s p).came
      unfold gone
      split
      · intro _; show (s.ins.erase p).length < s.came; omega
      · intro hl
        have := g.leak hl
        show (insN _ (s.ins.erase p)).length < s.came
        rw [Zf2]; omega
    | begin n => exact g.leak
    | run n =>
      show (match (Z2s c s n).2 with | some p => ran c s n p | none => s).leak = true -> (match (Z2s c s n).2 with | some p => ran c s n p | none => s).ins.length < (match (Z2s c s n).2 with | some p => ran c s n p | none => s).came
      cases (Z2s c s n).2 <;> exact g.leak
    | step =>
      obtain ⟨x, hx, _⟩ := h
      show (match c.ps[s.done]? with | some x => (⟨s.came, s.ins, Z6j c s x, s.done + 1, s.leak⟩ : Sta) | none => s).leak = true -> (match c.ps[s.done]? with | some x => (⟨s.came, s.ins, Z6j c s x, s.done + 1, s.leak⟩ : Sta) | none => s).ins.length < (match c.ps[s.done]? with | some x => (⟨s.came, s.ins, Z6j c s x, s.done + 1, s.leak⟩ : Sta) | none => s).came
      rw [hx]
      exact g.leak
  · have hl := g.lock
    unfold Z49 at hl
    cases m with
    | come =>
      show b2n (Z43 c s) + (0 :: s.ins).countP (lkP c) + Z3c c.ws s.jobs ≤ 1
      have : lkP c 0 = false := by unfold lkP; rw [ent0 (Zn3 hc)]; rfl
      rw [List.countP_cons, this]
      simpa using hl
    | go p =>
      obtain ⟨hp, hw⟩ := h
      have hlt := g.v.lt p hp
      have he := Zdv (c := c) hp
      have hj := Z66 c.ws (strt c s s.jobs (ent c.hs p).1) s.jobs (Zbj _ _)
      show Z49 c (gone c s p) ≤ 1
      unfold gone
      split
      · show b2n (Z43 c s) + (s.ins.erase p).countP (lkP c) + Z3c c.ws (strt c s s.jobs (ent c.hs p).1) ≤ 1
        omega
      · rename_i hne
        show b2n (Z43 c s) + (insN _ (s.ins.erase p)).countP (lkP c) + Z3c c.ws (strt c s s.jobs (ent c.hs p).1) ≤ 1
        rw [(Z4c _ _).countP_eq, List.countP_cons, hj]
        have hd := Z7l hc.hand.good hlt hne
        by_cases q : (ent c.hs p).1.w = Wd.lock
        · unfold Z6b at hw
          rw [decide_eq_true q] at hw
          obtain ⟨z1, z2, z3⟩ := Z97 (by simpa using hw)
          rw [z1, z3]
          have : (s.ins.erase p).countP (lkP c) = 0 := by omega
          rw [this]
          split <;> decide
        · have h3 : b2n (lkP c (later c s c.hs p)) ≤ b2n (lkP c p) := Zb9 fun e => by
            unfold lkP at e ⊢
            rw [hd] at e
            exact Zcq q e
          unfold b2n at h3 he hl ⊢
          omega
    | begin n =>
      obtain ⟨i, q, e1, rfl, e2⟩ := h
      have hs := Z93 c.ws s.jobs i q _ (false, some 0) e1 e2
      have hi := Zcp hc e1
      show b2n (Z43 c s) + s.ins.countP (lkP c) + Z3c c.ws (setJ c s.jobs q.1 (false, some 0)) ≤ 1
      unfold setJ
      rw [hi]
      have h0 : lkJ q (some 0) = false := by
        show (ent q.2 0).2.2.2.l = false
        rw [ent0 (hc.work q (List.mem_of_getElem? e1)).ne]; rfl
      have h1 : lkJ q (none : Option Nat) = false := rfl
      simp only [h0, h1] at hs
      unfold b2n at hs hl ⊢
      simp only [Bool.false_eq_true, if_false, Nat.add_zero] at hs
      omega
    | run n =>
      obtain ⟨i, q, b, p, e1, rfl, e2, hw⟩ := h
      have hr := Zbu hc e1
      have hj := Zf1 hc e1 e2
      have hi := Zcp hc e1
      have hlt := g.v.job i q b p e1 e2
      have hg := hc.work q (List.mem_of_getElem? e1)
      show Z49 c (match (Z2s c s q.1).2 with | some p => ran c s q.1 p | none => s) ≤ 1
      rw [hj]
      show Z49 c (ran c s q.1 p) ≤ 1
      unfold ran
      rw [hr]
      show b2n (Z43 c s) + s.ins.countP (lkP c) + Z3c c.ws (strt c s (setJ c s.jobs q.1 ((Z2s c s q.1).1, if later c s q.2 p = sizes q.2 then none else some (later c s q.2 p))) (ent q.2 p).1) ≤ 1
      rw [Z66 _ _ _ (Zbj _ _)]
      unfold setJ
      rw [hi]
      have hs := Z93 c.ws s.jobs i q _ ((Z2s c s q.1).1, if later c s q.2 p = sizes q.2 then none else some (later c s q.2 p)) e1 e2
      simp only at hs
      by_cases q1 : (ent q.2 p).1.w = Wd.lock
      · unfold Z6b at hw
        rw [decide_eq_true q1] at hw
        obtain ⟨z1, z2, z3⟩ := Z97 (by simpa using hw)
        rw [z1, z2]
        have := Zik (lkJ q (if later c s q.2 p = sizes q.2 then none else some (later c s q.2 p)))
        show 0 + 0 + _ ≤ 1
        omega
      · have h3 : b2n (lkJ q (if later c s q.2 p = sizes q.2 then none else some (later c s q.2 p))) ≤ b2n (lkJ q (some p)) := Zb9 fun e => by
          split at e
          · cases e
          · rename_i hne
            have e : (ent q.2 (later c s q.2 p)).2.2.2.l = true := e
            rw [Z7l hg.good hlt hne] at e
            exact Zcq q1 e
        omega
    | step =>
      obtain ⟨x, hx, hw⟩ := h
      show Z49 c (match c.ps[s.done]? with | some x => (⟨s.came, s.ins, Z6j c s x, s.done + 1, s.leak⟩ : Sta) | none => s) ≤ 1
      rw [hx]
      show b2n (Z9n (c.ps.take (s.done + 1))) + s.ins.countP (lkP c) + Z3c c.ws (Z6j c s x) ≤ 1
      have hj : Z3c c.ws (Z6j c s x) = Z3c c.ws s.jobs := by
        refine Z66 _ _ _ ?_
        cases x with
        | forget n =>
          show ((setJ c s.jobs n (false, (Z2s c s n).2)).map (·.2)) = _
          unfold setJ Z2s
          apply List.ext_getElem?
          intro i
          rw [List.getElem?_map, List.getElem?_map, List.getElem?_set]
          split
          · rename_i hi
            subst hi
            split
            · rename_i hl
              rw [List.getElem?_eq_getElem hl, List.getD_eq_getElem?_getD, List.getElem?_eq_getElem hl]; rfl
            · rename_i hl
              rw [List.getElem?_eq_none (by omega)]
          · rfl
        | _ => rfl
      rw [hj]
      by_cases q : x = .lock
      · subst q
        obtain ⟨z1, z2, z3⟩ := Z97 hw
        rw [z2, z3]
        have := Zik (Z9n (c.ps.take (s.done + 1)))
        omega
      · have : b2n (Z9n (c.ps.take (s.done + 1))) ≤ b2n (Z43 c s) := Zb9 fun e => Zfq hx q e
        omega
theorem Good.start : Good c (start c) := by
  refine ⟨Val.start, fun h => (nomatch h), ?_⟩
  show b2n (Z9n (c.ps.take 0)) + 0 + Z3c c.ws (c.names.map fun _ => (false, none)) ≤ 1
  have : ∀ (ws : List (Nm × List It)) (ns : List Nm), Z3c ws (ns.map fun _ => ((false, none) : Bool × Option Nat)) = 0 := fun ws => by
    induction ws with
    | nil => intro ns; simp [Z3c]
    | cons q ws ih =>
      intro ns
      cases ns with
      | nil => rfl
      | cons n ns => rw [List.map_cons, Z3c, ih]; rfl
  rw [this]
  have := Zik (Z9n (c.ps.take 0))
  omega
theorem Zev : ∀ (ys : List Sn) (n e : Nat) (p : PS) (k : Nat), p.h = false -> okS p ys = true -> ∀ z ∈ laS n e p k ys, z.2.2.2.h = false
  | [], _, _, _, _, _, _, z, hz => by cases hz
  | y :: r, n, e, p, k, hp, h, z, hz => by
    simp only [okS, Bool.and_eq_true] at h
    rcases List.mem_cons.mp hz with rfl | hz
    · exact hp
    · refine Zev r _ _ _ _ ?_ h.2 z hz
      have := Zar h.1
      generalize (snI y).w = w at this
      cases w <;> first | exact hp | rfl | cases this
theorem Zey : ∀ (xs : List It) (e n : Nat) (p : PS), p.h = false -> okI 0 p xs = true -> ∀ z ∈ laI e p n xs, z.2.2.2.h = false
  | [], _, _, _, _, _, z, hz => by cases hz
  | x :: r, e, n, p, hp, h, z, hz => by
    simp only [okI, Bool.and_eq_true, Bool.or_eq_true, decide_eq_true_eq, Bool.not_eq_true'] at h
    obtain ⟨a, b, c⟩ := h
    have ha : p.lets x.w r.isEmpty = true := a.elim (fun a => by omega) id
    have hg : (p.goes x.w).h = false := by
      have := Zar ha
      generalize x.w = w at this
      cases w <;> first | exact hp | rfl | cases this
    rw [laI, List.mem_append, List.mem_cons] at hz
    rcases hz with (rfl | hz) | hz
    · exact hp
    · rcases b with b | b
      · cases x with
        | s x => cases hz
        | ask n ys => cases b
      · exact Zev _ _ _ _ _ hg b z hz
    · exact Zey r _ _ _ hg c z hz
theorem Zgd {ws ms : List Nm} {xs : List It} (h : WorkOk ws ms xs) : ∀ z ∈ tab xs, z.2.2.2.h = false := Zey _ _ _ _ rfl h.rule
end
end SC
namespace PB
open PySem DM PL RR SC
open L2 hiding It St PS
abbrev W := PW.Wd
def stP : W -> St
  | .out => .out | .mark => .mark .gone | .wait => .wait | .empty => .empty | .down => .down | .let_ => .let_ | .lock => .lock | .unlock => .unlock | _ => .o1
def Zbw : W -> List It
  | .tried => [.s .look, .s .try_]
  | .locked => [.s .lock, .s .look, .s .hold, .s .unlock]
  | _ => [.s .look, .s .hold]
def Zkb : W -> List It
  | .in_ => [.s .enter, .ask .gone [some .leave, some .let_], .s .touch, .s .leave, .s .let_]
  | .ahead => [.ask .gone [some .let_], .s .enter, .s .touch, .s .leave, .s .let_]
  | .locked => [.s .lock, .ask .gone [some .unlock, some .let_], .s .touch, .s .unlock, .s .let_]
  | _ => [.s .enter, .s .touch, .s .leave, .s .let_]
def hs (o a : W) : List It := Zbw o ++ Zkb a
def plC (o a : W) (ws : List W) : Case := ⟨hs o a, [], ws.map stP⟩
def ols : List W := [.bare, .tried, .locked]
def als : List W := [.in_, .ahead, .none, .locked]
theorem Z8k : ∀ a ∈ PW.eight, ∀ b ∈ PW.eight, stP a = stP b -> a = b := by decide
theorem Zj8 : ∀ a ∈ PW.eight, (stP a).good = true ∧ (∀ n, stP a ≠ .bar n ∧ stP a ≠ .forget n ∧ stP a ≠ .idle n) := by
  intro a ha
  simp only [PW.eight, List.mem_cons, List.not_mem_nil, or_false] at ha
  rcases ha with rfl | rfl | rfl | rfl | rfl | rfl | rfl | rfl <;> exact ⟨rfl, fun n => ⟨by simp [stP], by simp [stP], by simp [stP]⟩⟩
theorem Zd2 {ws : List W} (hn : ws.Nodup) {w : W} {d : Nat} (hd : d ≤ ws.length) : w ∈ ws.take d ↔ ws.idxOf w < d := by
  constructor
  · intro h
    have hw := List.mem_of_mem_take h
    rcases Nat.lt_or_ge (ws.idxOf w) d with q | q
    · exact q
    · have h2 := PW.ix_drop hw q
      have e : ws.take d ++ ws.drop d = ws := List.take_append_drop d ws
      have hn' : (ws.take d ++ ws.drop d).Nodup := by rw [e]; exact hn
      exact absurd rfl ((List.nodup_append.mp hn').2.2 w h w h2)
  · intro h
    have hl : ws.idxOf w < ws.length := by omega
    refine List.mem_of_getElem? (i := ws.idxOf w) ?_
    rw [List.getElem?_take_of_lt h, List.getElem?_eq_getElem hl]
    simp
section
variable {o a : W} {ws : List W} {s : Sta}
theorem Zhh (hg : PW.Good ws) {w : W} (hw : w ∈ PW.eight) {l : List W} (hl : ∀ x ∈ l, x ∈ ws) : stP w ∈ l.map stP ↔ w ∈ l := by
  constructor
  · intro h
    obtain ⟨x, hx, e⟩ := List.mem_map.mp h
    rw [← Z8k x (hg.mem x (hl x hx)) w hw e]
    exact hx
  · exact fun h => List.mem_map_of_mem h
theorem Z9y (hg : PW.Good ws) (hd : s.done ≤ ws.length) {w : W} (hw : w ∈ PW.eight) : did (plC o a ws) s (stP w) = decide (ws.idxOf w < s.done) := by
  unfold did plC
  rw [← List.map_take]
  exact decide_eq_decide.mpr ((Zhh hg hw fun x hx => List.mem_of_mem_take hx).trans (Zd2 hg.nd hd))
theorem at_d {d : Nat} {x : St} (h : (ws.map stP)[d]? = some x) (hn : ws.Nodup) : ∃ w, x = stP w ∧ ws[d]? = some w ∧ ws.idxOf w = d ∧ w ∈ ws := by
  rw [List.getElem?_map] at h
  obtain ⟨w, e, rfl⟩ := Option.map_eq_some_iff.mp h
  obtain ⟨hl, e'⟩ := List.getElem?_eq_some_iff.mp e
  refine ⟨w, rfl, e, ?_, List.mem_of_getElem? e⟩
  have := List.Nodup.idxOf_getElem hn d hl
  rw [e'] at this
  exact this
theorem cnt {l : List W} (hg : PW.Good ws) (hl : ∀ x ∈ l, x ∈ ws) (hn : l.Nodup) {w : W} (hw : w ∈ PW.eight) : (l.map stP).count (stP w) = if w ∈ l then 1 else 0 := by
  have hnd : (l.map stP).Nodup := by
    rw [List.nodup_iff_pairwise_ne, List.pairwise_map]
    refine (List.nodup_iff_pairwise_ne.mp hn).imp_of_mem fun {x y} hx hy hne e => hne ?_
    exact Z8k x (hg.mem x (hl x hx)) y (hg.mem y (hl y hy)) e
  by_cases h : w ∈ l
  · rw [if_pos h]
    have h1 := List.count_pos_iff.mpr (List.mem_map_of_mem (f := stP) h)
    have h2 := List.nodup_iff_count.mp hnd (stP w)
    omega
  · rw [if_neg h]
    exact List.count_eq_zero_of_not_mem fun z => h ((Zhh hg hw hl).mp z)
theorem Zab (hg : PW.Good ws) (hd : s.done ≤ ws.length) : Z43 (plC o a ws) s = (decide (ws.idxOf .lock < s.done) && !decide (ws.idxOf .unlock < s.done)) := by
  have hs : ∀ x ∈ ws.take s.done, x ∈ ws := fun x hx => List.mem_of_mem_take hx
  have hn : (ws.take s.done).Nodup := hg.nd.sublist (List.take_sublist _ _)
  have c1 := cnt hg hs hn (w := .lock) PW.h_lock
  have c2 := cnt hg hs hn (w := .unlock) PW.h_unlock
  unfold Z43 plC Z9n
  rw [← List.map_take, show St.lock = stP .lock from rfl, show St.unlock = stP .unlock from rfl, c1, c2]
  have t1 := Zd2 hg.nd (w := .lock) hd
  have t2 := Zd2 hg.nd (w := .unlock) hd
  by_cases h1 : PW.Wd.lock ∈ ws.take s.done
  · by_cases h2 : PW.Wd.unlock ∈ ws.take s.done
    · rw [if_pos h1, if_pos h2, decide_eq_true (t1.mp h1), decide_eq_true (t2.mp h2)]; rfl
    · rw [if_pos h1, if_neg h2, decide_eq_true (t1.mp h1), decide_eq_false (fun z => h2 (t2.mpr z))]; rfl
  · rw [if_neg h1, decide_eq_false (fun z => h1 (t1.mpr z))]
    simp
theorem Zpy (hg : PW.Good ws) (hd : s.done ≤ ws.length) (h : Z43 (plC o a ws) s = false) : ∃ g ∈ PW.gapsF ws, g.1 ≤ s.done ∧ s.done ≤ g.2 := by
  rw [Zab hg hd] at h
  unfold PW.gapsF
  by_cases h1 : PW.Wd.lock ∈ ws
  · rw [if_pos h1]
    by_cases h2 : PW.Wd.unlock ∈ ws
    · rw [if_pos h2]
      rcases Nat.lt_or_ge (ws.idxOf .lock) s.done with q | q
      · rw [decide_eq_true q, Bool.true_and, Bool.not_eq_false', decide_eq_true_eq] at h
        exact ⟨_, List.mem_cons_of_mem _ List.mem_cons_self, h, hd⟩
      · exact ⟨_, List.mem_cons_self, Nat.zero_le _, q⟩
    · rw [if_neg h2]
      have e : ws.idxOf .unlock = ws.length := List.idxOf_eq_length h2
      rcases Nat.lt_or_ge (ws.idxOf .lock) s.done with q | q
      · rw [decide_eq_true q, e, decide_eq_false (by omega)] at h; cases h
      · exact ⟨_, List.mem_cons_self, Nat.zero_le _, q⟩
  · rw [if_neg h1]
    exact ⟨_, List.mem_cons_self, Nat.zero_le _, hd⟩
theorem Zk1 {g : Nat × Nat} {d : Nat} (h : g ∈ PW.gapsF ws) (h2 : d ≤ g.2) (hl : d < ws.length) (hx : ws.idxOf .lock ≠ d) : d + 1 ≤ g.2 := by
  unfold PW.gapsF at h
  split at h
  · split at h
    · simp only [List.mem_cons, List.not_mem_nil, or_false] at h
      rcases h with rfl | rfl <;> simp only at h2 ⊢ <;> omega
    · simp only [List.mem_cons, List.not_mem_nil, or_false] at h
      subst h
      simp only at h2 ⊢
      omega
  · simp only [List.mem_cons, List.not_mem_nil, or_false] at h
    subst h
    simp only at h2 ⊢
    omega
theorem Zh7 {p : Nat × Nat} (h : p ∈ PW.openF o ws) : p.2 = ws.length ∨ (p = (0, ws.idxOf .empty) ∧ PW.Wd.empty ∈ ws) := by
  unfold PW.openF at h
  split at h
  · rename_i he
    rcases List.mem_cons.mp h with rfl | h
    · exact .inr ⟨rfl, he⟩
    · left
      split at h
      · split at h
        · rw [List.mem_singleton.mp h]
        · cases h
      · split at h
        · rw [List.mem_singleton.mp h]
        · cases h
  · left
    rw [List.mem_singleton.mp h]
theorem Zh5 {p : Nat × Nat} {d : Nat} (h : p ∈ PW.openF o ws) (h2 : d ≤ p.2) (hl : d < ws.length) (hx : ws.idxOf .empty ≠ d) : d + 1 ≤ p.2 := by
  rcases Zh7 h with e | ⟨rfl, _⟩
  · omega
  · simp only at h2 ⊢; omega
theorem Zmi {d : Nat} (hd : d ≤ ws.length) (hl : d ≤ ws.idxOf .let_) (hk : o = .locked -> ∃ g ∈ PW.gapsF ws, g.1 ≤ d ∧ d ≤ g.2 ∧ g.1 ≤ ws.idxOf .out) : ∃ p ∈ PW.openF o ws, p.1 ≤ d ∧ d ≤ p.2 := by
  unfold PW.openF
  by_cases he : PW.Wd.empty ∈ ws
  · rw [if_pos he]
    rcases Nat.lt_or_ge (ws.idxOf .empty) d with q | q
    · by_cases ho : o = .locked
      · rw [if_pos ho]
        obtain ⟨g, hg, g1, g2, g3⟩ := hk ho
        have ht : PW.openT ws g = true := by
          unfold PW.openT
          rw [Bool.and_eq_true, decide_eq_true_eq, decide_eq_true_eq]
          exact ⟨g3, by omega⟩
        cases hf : (PW.gapsF ws).find? (PW.openT ws) with
        | none => exact absurd ht (by have := List.find?_eq_none.mp hf g hg; simpa using this)
        | some g' =>
          refine ⟨_, List.mem_cons_of_mem _ List.mem_cons_self, ?_, hd⟩
          show max g'.1 (ws.idxOf .empty + 1) ≤ d
          have hle : g'.1 ≤ g.1 := by
            have hg2 := List.mem_of_find?_eq_some hf
            revert hf hg hg2
            unfold PW.gapsF
            split
            · split
              · intro hg hf hg2
                simp only [List.mem_cons, List.not_mem_nil, or_false] at hg hg2
                rcases hg2 with rfl | rfl
                · exact Nat.zero_le _
                · rcases hg with rfl | rfl
                  · rw [List.find?_cons_of_pos ht] at hf
                    simp at hf
                  · exact Nat.le_refl _
              · intro hg hf hg2
                rw [List.mem_singleton.mp hg2]
                exact Nat.zero_le _
            · intro hg hf hg2
              rw [List.mem_singleton.mp hg2]
              exact Nat.zero_le _
          omega
      · rw [if_neg ho, if_pos (by omega)]
        exact ⟨_, List.mem_cons_of_mem _ List.mem_cons_self, by show ws.idxOf .empty + 1 ≤ d; omega, hd⟩
    · exact ⟨_, List.mem_cons_self, Nat.zero_le _, q⟩
  · rw [if_neg he]
    exact ⟨_, List.mem_cons_self, Nat.zero_le _, hd⟩
end
abbrev T (o a : W) (p : Nat) : La := ent (hs o a) p
def bb (o : W) : Nat := (Zbw o).length
def saw (o : W) (p : Nat) : Bool := decide (o = .locked) && decide (p = 2)
def askd (o a : W) (p : Nat) : Bool := match a with
  | .in_ => decide (p = bb o + 4)
  | .ahead => decide (p = bb o + 2) || decide (p = bb o + 3)
  | .locked => decide (p = bb o + 4)
  | _ => false
theorem Zls : ∀ o ∈ ols, ∀ a ∈ als, ∀ p ∈ List.range (sizes (hs o a)), (T o a p).1.w = .touch -> (T o a p).2.2.2.h = true ∧ (if a = .locked then (T o a p).2.2.2.l = true else (T o a p).2.2.2.u = true) ∧ (a = .none ∨ askd o a p = true) := by decide +kernel
theorem Zoa : ∀ o ∈ ols, ∀ a ∈ als, ∀ p ∈ List.range (sizes (hs o a)), Zgg (T o a p).1.w = true -> (T o a p).2.2.2.h = true ∨ o = .bare ∨ (o = .locked ∧ saw o p = true ∧ (T o a p).2.2.2.l = true) := by decide +kernel
theorem Zr5 : ∀ o ∈ ols, ∀ a ∈ als, ∀ p ∈ List.range (sizes (hs o a)), saw o (T o a p).2.1 = true -> (T o a p).1.w = .look ∧ (T o a p).2.2.2.l = true := by decide +kernel
theorem Zoc : ∀ o ∈ ols, ∀ a ∈ als, ∀ p ∈ List.range (sizes (hs o a)), askd o a (T o a p).2.1 = true -> (T o a p).1.isAsk = true ∨ (a = .ahead ∧ askd o a p = true ∧ (T o a p).2.2.2.h = true) := by decide +kernel
theorem Zd4 : ∀ o ∈ ols, ∀ a ∈ als, ∀ p ∈ List.range (sizes (hs o a)), (T o a p).1.isAsk = true -> (T o a p).2.2.1 < sizes (hs o a) ∧ saw o (T o a p).2.2.1 = false ∧ askd o a (T o a p).2.2.1 = false := by decide +kernel
theorem Zob : ∀ o ∈ ols, ∀ a ∈ als, ∀ p ∈ List.range (sizes (hs o a)), (T o a p).1.w = .hold ∨ (T o a p).1.w = .try_ -> o = .locked -> saw o p = true ∧ (T o a p).2.2.2.l = true := by decide +kernel
theorem Zr6 : ∀ o ∈ ols, ∀ a ∈ als, ∀ p ∈ List.range (sizes (hs o a)), (T o a p).2.1 = sizes (hs o a) -> ((T o a p).2.2.2.goes (T o a p).1.w).h = false := by decide +kernel
theorem Zgk : ∀ o ∈ ols, ∀ a ∈ als, ∀ p ∈ List.range (sizes (hs o a)), (T o a p).1.w = .lock -> (T o a p).2.2.2.u = false ∧ ((T o a p).2.2.2.h = true -> a = .locked) ∧ (o = .locked ∨ a = .locked) := by decide +kernel
theorem Zlr : ∀ o ∈ ols, ∀ a ∈ als, ∀ p ∈ List.range (sizes (hs o a)), (T o a p).2.2.2.u = true -> (T o a p).2.2.2.h = true := by decide +kernel
theorem Zr7 : ∀ o ∈ ols, ∀ a ∈ als, ∀ p ∈ List.range (sizes (hs o a)), (T o a p).1.isAsk = true -> (T o a p).2.2.2.h = true ∧ (a = .locked -> (T o a p).2.2.2.l = true) ∧ (a = .in_ -> (T o a p).2.2.2.u = true) ∧ (T o a p).1 = .ask .gone (T o a p).1.outs := by decide +kernel
theorem Zlt : ∀ o ∈ ols, ∀ a ∈ als, ∀ p ∈ List.range (sizes (hs o a)), (T o a p).1.w = .enter -> (T o a p).2.2.2.h = true := by decide +kernel
theorem Zo9 : ∀ o ∈ ols, ∀ a ∈ als, saw o 0 = false ∧ askd o a 0 = false ∧ (T o a 0).2.2.2 = .z ∧ 0 < sizes (hs o a) := by decide +kernel
theorem Zdo : ∀ o ∈ ols, ∀ a ∈ als, ∀ x ∈ hs o a, x.good = true := by decide +kernel
theorem Zpx {p : PS} {w : Wd} (h : (p.goes w).h = true) : p.h = true ∨ w = .hold ∨ w = .try_ := by
  obtain ⟨h1, u1, l1⟩ := p
  cases w <;> first | exact .inl h | exact .inr (.inl rfl) | exact .inr (.inr rfl) | (cases h; done)
theorem Zpw {p : PS} {w : Wd} (h : (p.goes w).l = true) : p.l = true ∨ w = .lock := by
  obtain ⟨h1, u1, l1⟩ := p
  cases w <;> first | exact .inl h | exact .inr rfl | (cases h; done)
theorem Zpv {p : PS} {w : Wd} (h : (p.goes w).u = true) : p.u = true ∨ w = .enter := by
  obtain ⟨h1, u1, l1⟩ := p
  cases w <;> first | exact .inl h | exact .inr rfl | (cases h; done)
end PB
namespace PB
open PySem DM PL RR SC
open L2 hiding It St PS
def ivs (ws : List W) (op : Nat × Nat) : List (Nat × Nat) := [(op.1, ws.idxOf .wait), (max op.1 (ws.idxOf .wait + 1), ws.length)]
def aok (a : W) (ws : List W) (op g iv : Nat × Nat) : Prop := match a with
  | .in_ => iv.1 ≤ ws.idxOf .mark
  | .ahead => op.1 ≤ ws.idxOf .mark
  | .locked => max op.1 g.1 ≤ ws.idxOf .mark
  | _ => True
structure HW (o a : W) (ws : List W) (d p : Nat) (op g iv : Nat × Nat) : Prop where
  h : (T o a p).2.2.2.h = true -> op ∈ PW.openF o ws ∧ op.1 ≤ d ∧ d ≤ op.2
  l : (T o a p).2.2.2.l = true -> g ∈ PW.gapsF ws ∧ g.1 ≤ d ∧ d ≤ g.2
  u : (T o a p).2.2.2.u = true -> iv ∈ ivs ws op ∧ iv.1 ≤ d ∧ d ≤ iv.2
  s : saw o p = true -> g.1 ≤ ws.idxOf .out
  k : askd o a p = true -> aok a ws op g iv
def HP (o a : W) (ws : List W) (d p : Nat) : Prop := ∃ op g iv, HW o a ws d p op g iv
structure Inv (o a : W) (ws : List W) (s : Sta) : Prop where
  leak : s.leak = false
  hp : ∀ p ∈ s.ins, HP o a ws s.done p
  past : ∀ x ∈ [PW.Wd.mark, .wait, .empty], x ∈ ws -> ws.idxOf .let_ < ws.idxOf x -> ws.idxOf x < s.done -> x ≠ .empty ∧ ∃ op ∈ PW.openF o ws, op.1 ≤ ws.idxOf x ∧ ws.idxOf x ≤ op.2
structure Pl (o a : W) (ws : List W) (s : Sta) : Prop where
  ho : o ∈ ols
  ha : a ∈ als
  g : PW.Good ws
  v : Val (plC o a ws) s
section
variable {o a : W} {ws : List W} {s : Sta}
theorem Pl.d (P : Pl o a ws s) : s.done ≤ ws.length := by
  have := P.v.done
  unfold plC at this
  rwa [List.length_map] at this
theorem Pl.lt (P : Pl o a ws s) {p : Nat} (hp : p ∈ s.ins) : p < sizes (hs o a) := P.v.lt p hp
theorem Pl.rg (P : Pl o a ws s) {p : Nat} (hp : p ∈ s.ins) : p ∈ List.range (sizes (hs o a)) := List.mem_range.mpr (P.lt hp)
theorem HW.step {d p : Nat} {op g iv : Nat × Nat} (w : HW o a ws d p op g iv) (hl : d < ws.length) (e1 : (T o a p).2.2.2.h = true -> ws.idxOf .empty ≠ d) (e2 : (T o a p).2.2.2.l = true -> ws.idxOf .lock ≠ d) (e3 : (T o a p).2.2.2.u = true -> ws.idxOf .wait ≠ d) : HW o a ws (d + 1) p op g iv where
  h := fun q => by
    obtain ⟨h1, h2, h3⟩ := w.h q
    exact ⟨h1, by omega, Zh5 h1 h3 hl (e1 q)⟩
  l := fun q => by
    obtain ⟨h1, h2, h3⟩ := w.l q
    exact ⟨h1, by omega, Zk1 h1 h3 hl (e2 q)⟩
  u := fun q => by
    obtain ⟨h1, h2, h3⟩ := w.u q
    refine ⟨h1, by omega, ?_⟩
    have := e3 q
    simp only [ivs, List.mem_cons, List.not_mem_nil, or_false] at h1
    rcases h1 with rfl | rfl <;> simp only at h2 h3 ⊢ <;> omega
  s := w.s
  k := w.k
theorem Zjz (h : held (plC o a ws) s = true) : ∃ p ∈ s.ins, (T o a p).2.2.2.h = true := by
  obtain ⟨p, hp, h⟩ := List.any_eq_true.mp h
  exact ⟨p, hp, h⟩
theorem Z8u (i : Inv o a ws s) (P : Pl o a ws s) (h : freed (plC o a ws) s = false) : s.done ≤ ws.idxOf .let_ ∨ ∃ p ∈ s.ins, (T o a p).2.2.2.h = true := by
  unfold freed at h
  rw [show St.let_ = stP .let_ from rfl, Z9y P.g P.d PW.h_let, i.leak] at h
  rcases Nat.lt_or_ge (ws.idxOf .let_) s.done with q | q
  · right
    rw [decide_eq_true q] at h
    refine Zjz (ws := ws) ?_
    cases e : held (plC o a ws) s
    · rw [e] at h; cases h
    · rfl
  · exact .inl q
theorem Zjt {p : Nat} (hq : later (plC o a ws) s (hs o a) p ≠ sizes (hs o a)) : Z6a (plC o a ws) s (T o a p).1.w = false ∧ ((turns (plC o a ws) s (T o a p).1 = true ∧ later (plC o a ws) s (hs o a) p = (T o a p).2.2.1) ∨ (turns (plC o a ws) s (T o a p).1 = false ∧ later (plC o a ws) s (hs o a) p = (T o a p).2.1)) := by
  unfold later at hq ⊢
  by_cases h : Z6a (plC o a ws) s (ent (hs o a) p).1.w = true
  · rw [if_pos h] at hq
    exact absurd rfl hq
  · rw [if_neg h]
    refine ⟨by simpa using h, ?_⟩
    cases e : turns (plC o a ws) s (ent (hs o a) p).1
    · exact .inr ⟨rfl, by rw [if_neg (by simp)]⟩
    · exact .inl ⟨rfl, by rw [if_pos rfl]⟩
theorem Za3 {x : It} (h : turns (plC o a ws) s x = true) : x.isAsk = true := by cases x with
  | s x => cases h
  | ask n ys => rfl
theorem Zro (P : Pl o a ws s) (i : Inv o a ws s) {p : Nat} (hp : p ∈ s.ins) (hw : Z6b (plC o a ws) s (T o a p).1.w = true) (hf : Z76 (plC o a ws) s (T o a p).1.w = none) (hq : later (plC o a ws) s (hs o a) p ≠ sizes (hs o a)) : HP o a ws s.done (later (plC o a ws) s (hs o a) p) := by
  obtain ⟨op, g, iv, w⟩ := i.hp p hp
  have hr := P.rg hp
  have fl := Z7l (c := plC o a ws) (s := s) (Zdo o P.ho a P.ha) (P.lt hp) hq
  obtain ⟨hst, hlt⟩ := Zjt hq
  generalize later (plC o a ws) s (hs o a) p = q at *
  have hnf : (T o a p).1.w = .hold ∨ (T o a p).1.w = .try_ -> freed (plC o a ws) s = false := fun h => by
    rcases h with h | h
    · rw [h] at hf
      unfold Z76 at hf
      rw [if_neg (by decide)] at hf
      cases e : freed (plC o a ws) s
      · rfl
      · rw [e] at hf; simp [Zgg] at hf
    · rw [h] at hst
      unfold Z6a at hst
      simpa using hst
  have hop : ∃ op', ((T o a q).2.2.2.h = true -> op' ∈ PW.openF o ws ∧ op'.1 ≤ s.done ∧ s.done ≤ op'.2) ∧ ((T o a p).2.2.2.h = true -> op' = op) := by
    by_cases e : (T o a p).2.2.2.h = true
    · exact ⟨op, fun _ => w.h e, fun _ => rfl⟩
    · by_cases e2 : (T o a p).1.w = .hold ∨ (T o a p).1.w = .try_
      · have key : ∃ op' ∈ PW.openF o ws, op'.1 ≤ s.done ∧ s.done ≤ op'.2 := by
          rcases Z8u i P (hnf e2) with z | ⟨p', hp', z⟩
          · refine Zmi P.d z fun ho => ?_
            obtain ⟨k1, k2⟩ := Zob o P.ho a P.ha p hr e2 ho
            obtain ⟨k3, k4, k5⟩ := w.l k2
            exact ⟨g, k3, k4, k5, w.s k1⟩
          · obtain ⟨op', _, _, w'⟩ := i.hp p' hp'
            obtain ⟨k1, k2, k3⟩ := w'.h z
            exact ⟨op', k1, k2, k3⟩
        obtain ⟨op', k1, k2, k3⟩ := key
        exact ⟨op', fun _ => ⟨k1, k2, k3⟩, fun z => absurd z e⟩
      · refine ⟨op, fun z => ?_, fun _ => rfl⟩
        have z : ((T o a p).2.2.2.goes (T o a p).1.w).h = true := by rw [← fl]; exact z
        rcases Zpx z with z | z
        · exact absurd z e
        · exact absurd z e2
  have hgp : ∃ g', ((T o a q).2.2.2.l = true -> g' ∈ PW.gapsF ws ∧ g'.1 ≤ s.done ∧ s.done ≤ g'.2) ∧ ((T o a p).2.2.2.l = true -> g' = g) := by
    by_cases e : (T o a p).2.2.2.l = true
    · exact ⟨g, fun _ => w.l e, fun _ => rfl⟩
    · by_cases e2 : (T o a p).1.w = .lock
      · have hfr : free (plC o a ws) s = true := by
          unfold Z6b at hw
          rw [decide_eq_true e2] at hw
          simpa using hw
        have hpl : Z43 (plC o a ws) s = false := by
          unfold free at hfr
          cases z : Z43 (plC o a ws) s
          · rfl
          · rw [z] at hfr; simp at hfr
        obtain ⟨g', k1, k2, k3⟩ := Zpy P.g P.d hpl
        exact ⟨g', fun _ => ⟨k1, k2, k3⟩, fun z => absurd z e⟩
      · refine ⟨g, fun z => ?_, fun _ => rfl⟩
        have z : ((T o a p).2.2.2.goes (T o a p).1.w).l = true := by rw [← fl]; exact z
        rcases Zpw z with z | z
        · exact absurd z e
        · exact absurd z e2
  obtain ⟨op', o1, o2⟩ := hop
  obtain ⟨g', g1, g2⟩ := hgp
  have hiv : ∃ iv', ((T o a q).2.2.2.u = true -> iv' ∈ ivs ws op' ∧ iv'.1 ≤ s.done ∧ s.done ≤ iv'.2) ∧ ((T o a p).2.2.2.u = true -> iv' = iv) := by
    by_cases e : (T o a p).2.2.2.u = true
    · rw [o2 (Zlr o P.ho a P.ha p hr e)]
      exact ⟨iv, fun _ => w.u e, fun _ => rfl⟩
    · by_cases e2 : (T o a p).1.w = .enter
      · have eh := Zlt o P.ho a P.ha p hr e2
        rw [o2 eh]
        obtain ⟨k1, k2, k3⟩ := w.h eh
        rcases Nat.lt_or_ge (ws.idxOf .wait) s.done with z | z
        · exact ⟨(max op.1 (ws.idxOf .wait + 1), ws.length), fun _ => ⟨List.mem_cons_of_mem _ List.mem_cons_self, by show max op.1 _ ≤ _; omega, P.d⟩, fun z => absurd z e⟩
        · exact ⟨(op.1, ws.idxOf .wait), fun _ => ⟨List.mem_cons_self, k2, z⟩, fun z => absurd z e⟩
      · refine ⟨iv, fun z => ?_, fun _ => rfl⟩
        have z : ((T o a p).2.2.2.goes (T o a p).1.w).u = true := by rw [← fl]; exact z
        rcases Zpv z with z | z
        · exact absurd z e
        · exact absurd z e2
  obtain ⟨iv', i1, i2⟩ := hiv
  refine ⟨op', g', iv', o1, g1, i1, fun z => ?_, fun z => ?_⟩
  · rcases hlt with ⟨e1, e2⟩ | ⟨e1, e2⟩
    · have := (Zd4 o P.ho a P.ha p hr (Za3 e1)).2.1
      rw [← e2, z] at this; cases this
    · rw [e2] at z
      obtain ⟨k1, k2⟩ := Zr5 o P.ho a P.ha p hr z
      rw [g2 k2]
      obtain ⟨_, k4, _⟩ := w.l k2
      have : did (plC o a ws) s .out = false := by
        rw [k1] at hst
        unfold Z6a at hst
        simpa using hst
      rw [show St.out = stP .out from rfl, Z9y P.g P.d PW.h_out, decide_eq_false_iff_not] at this
      omega
  · rcases hlt with ⟨e1, e2⟩ | ⟨e1, e2⟩
    · have := (Zd4 o P.ho a P.ha p hr (Za3 e1)).2.2
      rw [← e2, z] at this; cases this
    · rw [e2] at z
      rcases Zoc o P.ho a P.ha p hr z with k | ⟨rfl, k1, k2⟩
      · obtain ⟨k1, k2, k3, k4⟩ := Zr7 o P.ho a P.ha p hr k
        have hm : s.done ≤ ws.idxOf .mark := by
          rw [k4] at e1
          have e1 : did (plC o a ws) s (.mark .gone) = false := e1
          rw [show St.mark .gone = stP .mark from rfl, Z9y P.g P.d PW.h_mark, decide_eq_false_iff_not] at e1
          omega
        obtain ⟨_, m1, _⟩ := w.h k1
        rw [o2 k1]
        unfold aok
        split
        · have ku := k3 rfl
          rw [i2 ku]
          obtain ⟨_, m2, _⟩ := w.u ku
          omega
        · omega
        · have kl := k2 rfl
          rw [g2 kl]
          obtain ⟨_, m2, _⟩ := w.l kl
          omega
        · trivial
      · rw [o2 k2]
        exact w.k k1
theorem Zmn (P : Pl o a ws s) {i : Nat} {q : Nm × List It} (h : (plC o a ws).ws[i]? = some q) : False := by cases h
theorem Inv.after (P : Pl o a ws s) (i : Inv o a ws s) {m : Mv} (hm : MvOk (plC o a ws) s 8 m) (hf : fault (plC o a ws) s m = none) : Inv o a ws (SC.after (plC o a ws) s m) := by
  cases m with
  | come =>
    refine ⟨i.leak, fun p hp => ?_, i.past⟩
    rcases List.mem_cons.mp hp with rfl | hp
    · obtain ⟨z1, z2, z3, _⟩ := Zo9 o P.ho a P.ha
      exact ⟨(0, 0), (0, 0), (0, 0), ⟨fun q => (by rw [z3] at q; cases q), fun q => (by rw [z3] at q; cases q), fun q => (by rw [z3] at q; cases q), fun q => (by rw [z1] at q; cases q), fun q => (by rw [z2] at q; cases q)⟩⟩
    · exact i.hp p hp
  | begin n =>
    obtain ⟨k, q, h, _⟩ := hm
    exact (Zmn P h).elim
  | run n =>
    obtain ⟨k, q, b, p, h, _⟩ := hm
    exact (Zmn P h).elim
  | go p =>
    obtain ⟨hp, hw⟩ := hm
    show Inv o a ws (gone (plC o a ws) s p)
    unfold gone
    by_cases hq : later (plC o a ws) s (plC o a ws).hs p = sizes (plC o a ws).hs
    · rw [if_pos hq]
      have hq : later (plC o a ws) s (hs o a) p = sizes (hs o a) := hq
      refine ⟨?_, fun p' hp' => i.hp p' (List.mem_of_mem_erase hp'), i.past⟩
      show (s.leak || (!Z6a (plC o a ws) s (T o a p).1.w && ((T o a p).2.2.2.goes (T o a p).1.w).h)) = false
      rw [i.leak, Bool.false_or]
      cases e : Z6a (plC o a ws) s (T o a p).1.w
      · unfold later at hq
        rw [show Z6a (plC o a ws) s (ent (hs o a) p).1.w = false from e, if_neg (by simp)] at hq
        have hr := P.rg hp
        cases e2 : turns (plC o a ws) s (ent (hs o a) p).1
        · rw [e2, if_neg (by simp)] at hq
          rw [Zr6 o P.ho a P.ha p hr hq]; rfl
        · rw [e2, if_pos rfl] at hq
          have := (Zd4 o P.ho a P.ha p hr (Za3 e2)).1
          exact absurd hq (Nat.ne_of_lt this)
      · rfl
    · rw [if_neg hq]
      refine ⟨i.leak, fun p' hp' => ?_, i.past⟩
      have hp' : p' ∈ insN (later (plC o a ws) s (hs o a) p) (s.ins.erase p) := hp'
      rcases List.mem_cons.mp ((Z4c _ _).mem_iff.mp hp') with rfl | hp'
      · exact Zro P i hp hw hf hq
      · exact i.hp p' (List.mem_of_mem_erase hp')
  | step =>
    obtain ⟨x, hx, hl⟩ := hm
    obtain ⟨w, rfl, e1, e2, e3⟩ := at_d hx P.g.nd
    have hlt : s.done < ws.length := (List.getElem?_eq_some_iff.mp e1).1
    have same : ∀ {y : W}, ws.idxOf y = s.done -> y = w := fun {y} h => by
      have hy : ws.idxOf y < ws.length := by omega
      have : ws[ws.idxOf y]? = some y := by rw [List.getElem?_eq_getElem hy]; simp
      rw [h, e1] at this
      cases this; rfl
    have hfl : Z83 (plC o a ws) s (stP w) = none := by
      have hf : (match (plC o a ws).ps[s.done]? with | some x => Z83 (plC o a ws) s x | none => none) = none := hf
      rwa [hx] at hf
    have he : SC.after (plC o a ws) s Mv.step = ⟨s.came, s.ins, Z6j (plC o a ws) s (stP w), s.done + 1, s.leak⟩ := by
      show (match (plC o a ws).ps[s.done]? with | some x => (⟨s.came, s.ins, Z6j (plC o a ws) s x, s.done + 1, s.leak⟩ : Sta) | none => s) = _
      rw [hx]
    rw [he]
    have hlk : ∀ {t : La -> Bool}, ((here (plC o a ws) s).any t) = false -> ∀ p ∈ s.ins, t (T o a p) = false := fun {t} h p hp => by
      cases z : t (T o a p)
      · rfl
      · have : (here (plC o a ws) s).any t = true := List.any_eq_true.mpr ⟨T o a p, List.mem_append_left _ (List.mem_map_of_mem (f := ent (hs o a)) hp), z⟩
        rw [h] at this; cases this
    refine ⟨i.leak, fun p hp => ?_, fun x hx1 hx2 hx3 hx4 => ?_⟩
    · obtain ⟨op, g, iv, hw⟩ := i.hp p hp
      refine ⟨op, g, iv, hw.step hlt (fun q z => ?_) (fun q z => ?_) (fun q z => ?_)⟩
      · have := same z
        subst this
        have hl : (!s.leak && !held (plC o a ws) s) = true := hl
        have : held (plC o a ws) s = true := List.any_eq_true.mpr ⟨p, hp, q⟩
        rw [this] at hl; simp at hl
      · have := same z
        subst this
        have hl : free (plC o a ws) s = true := hl
        unfold free at hl
        rw [Bool.not_eq_true', Bool.or_eq_false_iff] at hl
        have := hlk hl.2 p hp
        rw [q] at this; cases this
      · have := same z
        subst this
        have hl : (!under (plC o a ws) s) = true := hl
        rw [Bool.not_eq_true'] at hl
        have := hlk hl p hp
        rw [q] at this; cases this
    · rcases Nat.lt_or_ge (ws.idxOf x) s.done with z | z
      · exact i.past x hx1 hx2 hx3 z
      · have z : ws.idxOf x = s.done := by
          have hx4 : ws.idxOf x < s.done + 1 := hx4
          omega
        have := same z
        subst this
        have hus : Zgh (stP x) = true := by
          simp only [List.mem_cons, List.not_mem_nil, or_false] at hx1
          rcases hx1 with rfl | rfl | rfl <;> rfl
        have hnf : freed (plC o a ws) s = false := by
          unfold Z83 at hfl
          rw [hus, Bool.true_and] at hfl
          cases q : freed (plC o a ws) s
          · rfl
          · rw [q] at hfl; simp at hfl
        rcases Z8u i P hnf with q | ⟨p, hp, q⟩
        · omega
        · obtain ⟨op, g, iv, hw⟩ := i.hp p hp
          obtain ⟨k1, k2, k3⟩ := hw.h q
          refine ⟨fun ex => ?_, op, k1, by omega, by omega⟩
          subst ex
          have hl : (!s.leak && !held (plC o a ws) s) = true := hl
          have : held (plC o a ws) s = true := List.any_eq_true.mpr ⟨p, hp, q⟩
          rw [this] at hl; simp at hl
theorem c_go (P : Pl o a ws s) (i : Inv o a ws s) {p : Nat} (hp : p ∈ s.ins) {f : Fw} (hf : Z76 (plC o a ws) s (T o a p).1.w = some f) : (f = .touched -> PW.touchA o a ws = true) ∧ (f = .used -> PW.usedF o ws = true) := by
  have hr := P.rg hp
  obtain ⟨op, g, iv, w⟩ := i.hp p hp
  unfold Z76 at hf
  by_cases ht : (T o a p).1.w = .touch
  · rw [if_pos ht] at hf
    split at hf
    · rename_i hd
      cases hf
      refine ⟨fun _ => ?_, fun e => (by cases e)⟩
      rw [show St.down = stP .down from rfl, Z9y P.g P.d PW.h_down, decide_eq_true_eq] at hd
      obtain ⟨k1, k2, k3⟩ := Zls o P.ho a P.ha p hr ht
      obtain ⟨m1, m2, m3⟩ := w.h k1
      unfold PW.touchA
      refine List.any_eq_true.mpr ⟨op, m1, ?_⟩
      unfold PW.touchF
      by_cases al : a = .locked
      · rw [if_pos al]
        rw [if_pos al] at k2
        obtain ⟨l1, l2, l3⟩ := w.l k2
        refine List.any_eq_true.mpr ⟨g, l1, ?_⟩
        have hk : askd o a p = true := by
          rcases k3 with k3 | k3
          · rw [al] at k3; cases k3
          · exact k3
        have hm := w.k hk
        rw [al] at hm
        have hm : max op.1 g.1 ≤ ws.idxOf .mark := hm
        unfold PW.gapT
        rw [Bool.and_eq_true, decide_eq_true_eq, decide_eq_true_eq]
        omega
      · rw [if_neg al]
        rw [if_neg al] at k2
        obtain ⟨u1, u2, u3⟩ := w.u k2
        rw [if_neg (fun z => by
          obtain ⟨z1, z2⟩ := z
          have hk : askd o a p = true := by
            rcases k3 with k3 | k3
            · rw [z1] at k3; cases k3
            · exact k3
          have hm := w.k hk
          rw [z1] at hm
          have hm : op.1 ≤ ws.idxOf .mark := hm
          omega)]
        refine List.any_eq_true.mpr ⟨iv, u1, ?_⟩
        unfold PW.strT
        rw [Bool.and_eq_true, Bool.or_eq_true, decide_eq_true_eq, decide_eq_true_eq, decide_eq_true_eq]
        refine ⟨?_, by omega⟩
        by_cases ai : a = .in_
        · right
          have hk : askd o a p = true := by
            rcases k3 with k3 | k3
            · rw [ai] at k3; cases k3
            · exact k3
          have hm := w.k hk
          rw [ai] at hm
          exact hm
        · exact .inl ai
    · cases hf
  · rw [if_neg ht] at hf
    split at hf
    · rename_i hu
      cases hf
      refine ⟨fun e => (by cases e), fun _ => ?_⟩
      rw [Bool.and_eq_true] at hu
      obtain ⟨hu, hfr⟩ := hu
      unfold freed at hfr
      rw [show St.let_ = stP .let_ from rfl, Z9y P.g P.d PW.h_let, Bool.and_eq_true, Bool.and_eq_true, decide_eq_true_eq, Bool.not_eq_true', Bool.not_eq_true'] at hfr
      obtain ⟨h1, _, h3⟩ := hfr
      have hl : PW.Wd.let_ ∈ ws := PW.ix_in.mpr (by have := P.d; omega)
      unfold PW.usedF
      rw [decide_eq_true hl, Bool.true_and, Bool.or_eq_true]
      right
      rcases Zoa o P.ho a P.ha p hr hu with k | k | ⟨k, k1, k2⟩
      · have : held (plC o a ws) s = true := List.any_eq_true.mpr ⟨p, hp, k⟩
        rw [this] at h3; cases h3
      · rw [k, if_neg (by decide)]; rfl
      · rw [if_pos k]
        obtain ⟨l1, l2, l3⟩ := w.l k2
        have := w.s k1
        refine List.any_eq_true.mpr ⟨g, l1, ?_⟩
        rw [Bool.and_eq_true, decide_eq_true_eq, decide_eq_true_eq]
        omega
    · cases hf
theorem Zqf (P : Pl o a ws s) {w : W} (hw : ws.idxOf w = s.done) (hm : w ∈ ws) {f : Fw} (hf : Z83 (plC o a ws) s (stP w) = some f) : f = .used ∧ PW.usedF o ws = true := by
  unfold Z83 at hf
  split at hf
  · rename_i hu
    cases hf
    refine ⟨rfl, ?_⟩
    rw [Bool.and_eq_true] at hu
    obtain ⟨hu, hfr⟩ := hu
    unfold freed at hfr
    rw [show St.let_ = stP .let_ from rfl, Z9y P.g P.d PW.h_let, Bool.and_eq_true, decide_eq_true_eq] at hfr
    have h1 := hfr.1
    have hl : PW.Wd.let_ ∈ ws := PW.ix_in.mpr (by have := P.d; omega)
    unfold PW.usedF PW.ublF
    rw [decide_eq_true hl, Bool.true_and, Bool.or_eq_true]
    left
    have h8 := P.g.mem w hm
    have key : w ∈ [PW.Wd.mark, .wait, .empty] := by
      simp only [PW.eight, List.mem_cons, List.not_mem_nil, or_false] at h8
      rcases h8 with rfl | rfl | rfl | rfl | rfl | rfl | rfl | rfl <;> first | (cases hu; done) | (exfalso; omega) | simp
    refine List.any_eq_true.mpr ⟨w, key, ?_⟩
    rw [Bool.and_eq_true, decide_eq_true_eq, decide_eq_true_eq]
    exact ⟨hm, by omega⟩
  · cases hf
theorem Znf (P : Pl o a ws s) (i : Inv o a ws s) {m : Mv} (hm : MvOk (plC o a ws) s 8 m) {f : Fw} (hf : fault (plC o a ws) s m = some f) : (f = .touched -> PW.touchA o a ws = true) ∧ (f = .used -> PW.usedF o ws = true) := by
  cases m with
  | come => cases hf
  | begin n => cases hf
  | run n =>
    obtain ⟨k, q, b, p, h, _⟩ := hm
    exact (Zmn P h).elim
  | go p => exact c_go P i hm.1 hf
  | step =>
    obtain ⟨x, hx, hl⟩ := hm
    have hf : (match (plC o a ws).ps[s.done]? with | some x => Z83 (plC o a ws) s x | none => none) = some f := hf
    rw [hx] at hf
    obtain ⟨w, rfl, e1, e2, e3⟩ := at_d hx P.g.nd
    obtain ⟨h1, h2⟩ := Zqf P e2 e3 hf
    exact ⟨fun e => (by rw [h1] at e; cases e), fun _ => h2⟩
theorem Zqg (P : Pl o a ws s) (i : Inv o a ws s) (h : kept (plC o a ws) s = true) : PW.Wd.let_ ∉ ws := fun hl => by
  unfold kept at h
  rw [Bool.and_eq_true, Bool.and_eq_true, decide_eq_true_eq, Bool.not_eq_true'] at h
  obtain ⟨h1, h2, h3⟩ := h
  have h1 : s.done = ws.length := by
    have h1 : s.done = (ws.map stP).length := h1
    rwa [List.length_map] at h1
  rcases Z8u i P h3 with q | ⟨p, hp, _⟩
  · have := PW.ix_in.mp hl
    omega
  · rw [List.isEmpty_iff.mp h2] at hp
    cases hp
theorem Zaq {q : La × Option Nm} (h : q ∈ Z21 (plC o a ws) s) : ∃ p ∈ s.ins, q = (T o a p, none) ∧ (T o a p).1.w = .lock := by
  unfold Z21 at h
  obtain ⟨h1, h2⟩ := List.mem_filter.mp h
  rcases List.mem_append.mp h1 with h1 | h1
  · obtain ⟨p, hp, rfl⟩ := List.mem_map.mp h1
    exact ⟨p, hp, rfl, of_decide_eq_true h2⟩
  · have h1 : q ∈ (([] : List (Nm × List It)).zip s.jobs).filterMap jobL := h1
    simp at h1
theorem Zne (P : Pl o a ws s) (i : Inv o a ws s) (h : stuck (plC o a ws) s = true) : PW.stuckF o a ws = true := by
  have hd := P.d
  unfold stuck at h
  unfold PW.stuckF
  cases hx : (plC o a ws).ps[s.done]? with
  | none =>
    rw [hx] at h
    simp only [Bool.and_eq_true, Bool.not_eq_true'] at h
    obtain ⟨h1, h2⟩ := h
    have hlen : s.done = ws.length := by
      have := List.getElem?_eq_none_iff.mp hx
      have this : (ws.map stP).length ≤ s.done := this
      rw [List.length_map] at this
      omega
    rw [Zab P.g hd, Bool.and_eq_true, Bool.not_eq_true', decide_eq_true_eq, decide_eq_false_iff_not] at h1
    have hl : PW.Wd.lock ∈ ws := PW.ix_in.mpr (by omega)
    have hu : PW.Wd.unlock ∉ ws := fun z => h1.2 (by have := PW.ix_in.mp z; omega)
    obtain ⟨q, hq⟩ : ∃ q, q ∈ Z21 (plC o a ws) s := by
      cases z : Z21 (plC o a ws) s with
      | nil => rw [z] at h2; cases h2
      | cons q r => exact ⟨q, List.mem_cons_self⟩
    obtain ⟨p, hp, _, hw⟩ := Zaq hq
    obtain ⟨_, _, k3⟩ := Zgk o P.ho a P.ha p (P.rg hp) hw
    rw [decide_eq_true hl, Bool.true_and, Bool.or_eq_true]
    right
    rw [decide_eq_false hu, Bool.not_false, Bool.true_and, Bool.and_eq_true, Bool.or_eq_true, decide_eq_true_eq, decide_eq_true_eq]
    refine ⟨k3, ?_⟩
    cases hb : PW.ublF ws
    · rfl
    · by_cases he : PW.Wd.empty ∈ ws
      · rw [Bool.or_eq_true]
        right
        rw [decide_eq_true_eq]
        unfold PW.ublF at hb
        obtain ⟨x, hx1, hx2⟩ := List.any_eq_true.mp hb
        rw [Bool.and_eq_true, decide_eq_true_eq, decide_eq_true_eq] at hx2
        obtain ⟨hx2, hx3⟩ := hx2
        have hxl := PW.ix_in.mp hx2
        obtain ⟨_, op, o1, o2, o3⟩ := i.past x hx1 hx2 hx3 (by omega)
        have hel : ws.idxOf .empty ≤ ws.idxOf .let_ := by
          rcases Nat.lt_or_ge (ws.idxOf .let_) (ws.idxOf .empty) with z | z
          · have := PW.ix_in.mp he
            exact absurd rfl (i.past .empty (by simp) he z (by omega)).1
          · exact z
        have := PW.open_len o ws
        have h2 : 2 ≤ (PW.openF o ws).length := by
          unfold PW.openF at o1 ⊢
          rw [if_pos he] at o1 ⊢
          rcases List.mem_cons.mp o1 with rfl | o1
          · have o3 : ws.idxOf x ≤ ws.idxOf .empty := o3
            omega
          · rw [List.length_cons]
            have := List.length_pos_of_mem o1
            omega
        omega
      · rw [decide_eq_false he]; rfl
  | some x =>
    rw [hx] at h
    obtain ⟨w, rfl, e1, e2, e3⟩ := at_d hx P.g.nd
    have hlt : s.done < ws.length := (List.getElem?_eq_some_iff.mp e1).1
    simp only [i.leak, Bool.and_false, Bool.false_or, Bool.and_eq_true] at h
    obtain ⟨h1, h2⟩ := h
    rw [Zab P.g hd, Bool.and_eq_true, Bool.not_eq_true', decide_eq_true_eq, decide_eq_false_iff_not] at h1
    have hl : PW.Wd.lock ∈ ws := PW.ix_in.mpr (by omega)
    have h8 := P.g.mem w e3
    have hw : w = .wait ∨ w = .empty := by
      simp only [PW.eight, List.mem_cons, List.not_mem_nil, or_false] at h8
      rcases h8 with rfl | rfl | rfl | rfl | rfl | rfl | rfl | rfl <;> first | exact .inl rfl | exact .inr rfl | (cases h2; done)
    rcases hw with rfl | rfl
    · have h2 : ((Z21 (plC o a ws) s).any fun q => q.1.2.2.2.u) = true := h2
      obtain ⟨q, hq, hu⟩ := List.any_eq_true.mp h2
      obtain ⟨p, hp, rfl, hw⟩ := Zaq hq
      have := (Zgk o P.ho a P.ha p (P.rg hp) hw).1
      have hu : (T o a p).2.2.2.u = true := hu
      rw [this] at hu; cases hu
    · have h2 : ((Z21 (plC o a ws) s).any fun q => q.1.2.2.2.h) = true := h2
      obtain ⟨q, hq, hh⟩ := List.any_eq_true.mp h2
      obtain ⟨p, hp, rfl, hw⟩ := Zaq hq
      have ha := (Zgk o P.ho a P.ha p (P.rg hp) hw).2.1 hh
      have hne : ws.idxOf .unlock ≠ s.done := fun z => by
        have hy : ws.idxOf .unlock < ws.length := by omega
        have : ws[ws.idxOf .unlock]? = some .unlock := by rw [List.getElem?_eq_getElem hy]; simp
        rw [z, e1] at this
        cases this
      rw [decide_eq_true hl, Bool.true_and, Bool.or_eq_true]
      left
      rw [decide_eq_true ha, decide_eq_true e3, Bool.true_and, Bool.true_and, Bool.and_eq_true, decide_eq_true_eq, decide_eq_true_eq]
      omega
end
theorem Zh6 : ∀ o ∈ ols, Zbw o ∈ Zd8 := by decide
theorem Zhx : ∀ o ∈ ols, ∀ a ∈ als, sizes (hs o a) ≤ 14 := by decide +kernel
theorem Zrn : ∀ o ∈ ols, ∀ a ∈ als, ∀ x ∈ hs o a, nmOk [] [.gone] x = true := by decide +kernel
theorem Zka : ∀ a ∈ als, okI 0 ⟨true, false, false⟩ (Zkb a) = true := by decide +kernel
theorem Zcb : ∀ (ws : List W) (b : Bool), (∀ w ∈ ws, w ∈ PW.eight) -> lkF b (ws.map stP) = lkF b ((ws.filter PW.isL).map stP)
  | [], _, _ => rfl
  | w :: ws, b, h => by
    have ih := fun b => Zcb ws b fun x hx => h x (List.mem_cons_of_mem _ hx)
    have h8 := h w List.mem_cons_self
    by_cases q : PW.isL w = true
    · rw [List.filter_cons_of_pos q, List.map_cons, List.map_cons]
      unfold lkF
      rw [ih]
    · rw [List.filter_cons_of_neg q, List.map_cons, ← ih]
      have h1 : stP w ≠ .lock := fun e => q (by rw [Z8k w h8 .lock PW.h_lock e]; rfl)
      have h2 : stP w ≠ .unlock := fun e => q (by rw [Z8k w h8 .unlock PW.h_unlock e]; rfl)
      show (!(decide (stP w = .lock) && b || decide (stP w = .unlock) && !b) && lkF (decide (stP w = .lock) || b && !decide (stP w = .unlock)) (ws.map stP)) = _
      rw [decide_eq_false h1, decide_eq_false h2]
      cases b <;> rfl
theorem Zei {o a : W} {ws : List W} (ho : o ∈ ols) (ha : a ∈ als) (hg : PW.Good ws) (hl : ws.length ≤ 9) : CaseOk (plC o a ws) [.gone] where
  nms := .inl rfl
  hand := ⟨⟨Zbw o, Zh6 o ho, Zkb a, rfl⟩, Zdo o ho a ha, Zhx o ho a ha, Zrn o ho a ha, fun o' r h1 h2 => by
    have h2 : Zbw o ++ Zkb a = o' ++ r := h2
    have e := Zfr _ (Zh6 o ho) _ h1 _ _ h2
    rw [← e] at h2
    rw [← List.append_cancel_left h2]
    exact Zka a ha⟩
  work := fun q hq => (nomatch hq)
  pull := by
    have hnd : (ws.map stP).Nodup := by
      rw [List.nodup_iff_pairwise_ne, List.pairwise_map]
      refine (List.nodup_iff_pairwise_ne.mp hg.nd).imp_of_mem fun {x y} hx hy hne e => hne ?_
      exact Z8k x (hg.mem x hx) y (hg.mem y hy) e
    refine ⟨fun x hx => ?_, by show (ws.map stP).length ≤ 9; rw [List.length_map]; exact hl, hnd.sublist List.filter_sublist, ?_, fun x hx => ?_⟩
    · obtain ⟨w, hw, rfl⟩ := List.mem_map.mp hx
      exact (Zj8 w (hg.mem w hw)).1
    · show lkF false (ws.map stP) = true
      rw [Zcb ws false hg.mem]
      rcases hg.lk with e | e | e <;> rw [e] <;> rfl
    · obtain ⟨w, hw, rfl⟩ := List.mem_map.mp hx
      have h8 := hg.mem w hw
      simp only [PW.eight, List.mem_cons, List.not_mem_nil, or_false] at h8
      rcases h8 with rfl | rfl | rfl | rfl | rfl | rfl | rfl | rfl <;> rfl
  mks := .inl rfl
theorem Inv.start {o a : W} {ws : List W} : Inv o a ws (start (plC o a ws)) := ⟨rfl, fun p hp => (nomatch hp), fun x _ _ _ h => absurd h (Nat.not_lt_zero _)⟩
end PB
set_option pp.maxSteps 600
set_option pp.deepTerms false
namespace K56
open PySem PySem.Spec PyProof.Rows L2 DL DM NdefX
noncomputable section
def Z23 : Str -> Bool := fun C => C == "Plain"
def Z1z : Str -> Bool := fun C => C == "Plain"
def Zb : Str -> Bool := fun C => C == "Plain"
structure Txt (P : Program) (w : World) (K : PySem.W.Frag) (mg : Str -> Option Value) : Prop where
  z_any : mg "any" = none
  z_enumerate : mg "enumerate" = none
  z_int : mg "int" = none
  z_isinstance : mg "isinstance" = none
  z_len : mg "len" = none
  z_list : mg "list" = none
  z_max : mg "max" = none
  z_min : mg "min" = none
  z_range : mg "range" = none
  z_set : mg "set" = none
  z_sorted : mg "sorted" = none
  z_str : mg "str" = none
  z_tuple : mg "tuple" = none
  z_zip : mg "zip" = none
  gDOWN : GlobD K mg "DOWN" gDOWN
  gEMPTY : GlobD K mg "EMPTY" gEMPTY
  gKEPT : GlobD K mg "KEPT" gKEPT
  gLET : GlobD K mg "LET" gLET
  gLOCK : GlobD K mg "LOCK" gLOCK
  gMARK : GlobD K mg "MARK" gMARK
  gOUT : GlobD K mg "OUT" gOUT
  gPULLS : GlobD K mg "PULLS" gPULLS
  gSTUCK : GlobD K mg "STUCK" gSTUCK
  gTOUCHED : GlobD K mg "TOUCHED" gTOUCHED
  gUNLOCK : GlobD K mg "UNLOCK" gUNLOCK
  gUSED : GlobD K mg "USED" gUSED
  gWAIT : GlobD K mg "WAIT" gWAIT
  k_ASKS : KdC K w mg "ASKS" kASKS
  k_OPENS : KdC K w mg "OPENS" kOPENS
  f_own_asks : ∀ C, Z23 C = true -> FldC K C "own_asks"
  f_own_opens : ∀ C, Z1z C = true -> FldC K C "own_opens"
  f_own_pulls : ∀ C, Zb C = true -> FldC K C "own_pulls"
  x_InvalidOption : ErrC P K mg "InvalidOption" ["value"]
  x_InvalidStep : ErrC P K mg "InvalidStep" ["index"]
  x_UnknownName : ErrC P K mg "UnknownName" ["name"]
section
variable {P : Program} {w : World} {K : PySem.W.Frag} {mg : Str -> Option Value} {base : Heap} {f : Addr} {fd : FuncData}
theorem lo {sc : PySem.Scope} {x : Str} (h : Loc sc x := by first | exact Or.inl rfl | exact Or.inr rfl) : Loc sc x := h
theorem hm {j k : Nat} {A : Around} (r : Room k A) (h : j ≤ k := by decide) : Room j A := r.mono h
theorem wu {env : Fm} {n : Nat} (h : env.length = n := by rfl) : Wk env (List.replicate n .un) := Znx h
theorem fsc {N P : List Str} {sc : PySem.Scope} (a : sc.kind = .function := by rfl) (b : sc.isCoroutine = false := by rfl) (c : sc.isGenerator = false := by rfl) (d : N.Nodup := by decide +kernel) (e : N.take P.length = P := by rfl)
    (f : ∀ x ∈ P, sc.names.lookup x = some .local ∨ sc.names.lookup x = some .cell := by decide +kernel) (g : ∀ y ∈ sc.names, y.2 ≠ .free := by decide +kernel) : FnScope N P sc := ⟨a, b, c, d, e, f, g⟩
theorem l1 {α : Type} {m : List D -> α} {no : α} (h0 : m [] = no := by rfl) (h2 : ∀ a b l, m (a :: b :: l) = no := by intros; rfl) : ∀ ds, m ds ≠ no -> ds.length = 1 | [], h => absurd h0 h | [_], _ => rfl | a :: b :: l, h => absurd (h2 a b l) h
theorem l2 {α : Type} {m : List D -> α} {no : α} (h0 : m [] = no := by rfl) (h1 : ∀ a, m [a] = no := by intros; rfl) (h2 : ∀ a b c l, m (a :: b :: c :: l) = no := by intros; rfl) : ∀ ds, m ds ≠ no -> ds.length = 2
  | [], h => absurd h0 h | [a], h => absurd (h1 a) h | [_, _], _ => rfl | a :: b :: c :: l, h => absurd (h2 a b c l) h
theorem l3 {α : Type} {m : List D -> α} {no : α} (h0 : m [] = no := by rfl) (h1 : ∀ a, m [a] = no := by intros; rfl) (h2 : ∀ a b, m [a, b] = no := by intros; rfl) (h3 : ∀ a b c d l, m (a :: b :: c :: d :: l) = no := by intros; rfl) : ∀ ds, m ds ≠ no -> ds.length = 3
  | [], h => absurd h0 h | [a], h => absurd (h1 a) h | [a, b], h => absurd (h2 a b) h | [_, _, _], _ => rfl | a :: b :: c :: d :: l, h => absurd (h3 a b c d l) h
def Z28 : List D -> R Unit D
  | [y0] => R.bind (R.lft (isiG [y0, (.ty "str")]) fun y1 => R.asB y1 fun y2 => if (!y2) then R.ok true else R.lft (Z39 y0 gPULLS) fun y3 => R.asB y3 fun y4 => R.ok y4) fun y5 => if y5 then R.raise "UnknownName" ["name"] [y0] () else R.ok .non
  | _ => .no
theorem Z9o : ∀ ds, Z28 ds ≠ .no -> ds.length = 1 := l1
theorem Z8l : FnScope ["word"] ["word"] (defScope Z3p) := fsc
theorem Z8p (F : Fu K "require_pull" Z3p f fd) (T : Txt P w K mg) : FnG P w K mg base (L2.CX P w) 2 f fd ["word"] (spM K (mk0 1) none (Lp Z28)) := by
  refine okP F Z8l rfl (fun _ A _ s H E hr hG te tk po ds hl => ?_)
  match ds, hl with
  | [y0], _ => exact AB.eq (Z4s () (AW.at (Zba (Z79 (Z26 (Zh call_isi Zfc boot_isinstance T.z_isinstance (by rfl) (Z3 (Z0 (av 0 rfl)) (Z3 (Z0 (Zko boot_str T.z_str (by rfl))) Z7))))) (Z84 (Z9 (Z2f (u65 hr)) Z2g (Z0 (av 0 rfl)) (Z0 (Zm T.gPULLS (by rfl))) (by rfl))))) wu (Z8j (k := 0) () T.x_UnknownName (Z1c (Z1 (av 0 rfl) Z2)) wu rfl te (hm hr) (by rfl)) (Zr () wu rfl)) rfl
def Z2r : List D -> R Unit D
  | [y0, y1] => R.call (Z28 [y1]) () fun y2 => R.bind (Z3d Zb "own_pulls" y0 fun y3 => R.lft (inA y1 y3) fun y4 => R.asB y4 fun y5 => if y5 then Z3d Zb "own_pulls" y0 fun y6 => R.asQ y6 fun _ => R.lft (idxG y6 [y1]) fun y7 => R.ok y7 else Z3d Zb "own_pulls" y0 fun y8 => R.lft (lenG [y8]) fun y9 => R.ok y9) fun ya => R.ok ya
  | _ => .no
theorem Zav : ∀ ds, Z2r ds ≠ .no -> ds.length = 2 := l2
def Zn : Str -> Option (List D -> R Unit D) := fun C => if C = "Plain" then some Z2r else none
theorem Z9i : FnScope ["self", "word"] ["self", "word"] (defScope Z42) := fsc
theorem Z9k (F : Fun K "ahead" "Plain.ahead" Z42 f fd) (T : Txt P w K mg) (d_require_pull : Dfn P w K mg base 2 "require_pull" (mk0 1) none (Lp Z28)) : FnG P w K mg base (L2.CX P w) 3 f fd ["self", "word"] (spM K (mk0 2) none (Lp Z2r)) := by
  refine okP F Z9i rfl (fun _ A _ s H E hr hG te tk po ds hl => ?_)
  match ds, hl with
  | [y0, y1], _ => exact AB.eq (Zns () (Zw d_require_pull Z9o (Z1 (av 1 rfl) Z2) (hm hr) hG tk (by rfl)) wu (Za () () (a_if (Z9 (Z6c (u65 hr)) Z6d (Z0 (av 1 rfl)) (Z0 (Z41 T.f_own_pulls (Z0 (av 0 rfl)))) (by rfl)) (Ze7 (u65 hr) (Z0 (Z41 T.f_own_pulls (Z0 (av 0 rfl)))) (Z3 (Z0 (av 1 rfl)) Z7)) (Zh call_len Z3b PySem.boot_len T.z_len (by rfl) (Z3 (Z0 (Z41 T.f_own_pulls (Z0 (av 0 rfl)))) Z7))) wu wu rfl)) rfl
def Z2a : List D -> R Unit D
  | [y0, y1] => Zi Zn "ahead" y0 fun y2 => R.call (y2 [y0, y1]) () fun y3 => R.lft (addA y3 (.int 1)) fun y4 => R.ok y4
  | _ => .no
theorem Z9r : ∀ ds, Z2a ds ≠ .no -> ds.length = 2 := l2
def Z1l : Str -> Option (List D -> R Unit D) := fun C => if C = "Plain" then some Z2a else none
theorem Z8m : FnScope ["self", "word"] ["self", "word"] (defScope Z3s) := fsc
theorem Z8t (F : Fun K "behind" "Plain.behind" Z3s f fd) (T : Txt P w K mg) (d_m_ahead : ∀ C mf, Zn C = some mf -> MethC P w K mg base 3 C "ahead" none mf) : FnG P w K mg base (L2.CX P w) 4 f fd ["self", "word"] (spM K (mk0 2) none (Lp Z2a)) := by
  refine okP F Z8m rfl (fun _ A _ s H E hr hG te tk po ds hl => ?_)
  match ds, hl with
  | [y0, y1], _ => exact AB.eq (Za () () (a_op Zd Ze (Z0 (Z15 d_m_ahead (av 0 rfl) (Z1c (Z1 (av 1 rfl) Z2)) (hm hr) hG tk)) (Z0 Z5)) wu wu rfl) rfl
def Z3a : List D -> R Unit D
  | [y0] => Z3d Zb "own_pulls" y0 fun y1 => R.lft (lenG [y1]) fun y2 => Z3d Zb "own_pulls" y0 fun y3 => R.lft (Z39 gLOCK y3) fun y4 => R.asB y4 fun y5 => if y5 then R.few [(.int 0), y2] fun y6 => R.few [(.tup y6)] fun y7 => R.ok (.lst y7) else Zi Zn "ahead" y0 fun y8 => R.call (y8 [y0, gLOCK]) () fun y9 => R.few [(.int 0), y9] fun ya => R.few [(.tup ya)] fun yb => R.bind (Z3d Zb "own_pulls" y0 fun yc => R.lft (inA gUNLOCK yc) fun yd => R.asB yd fun ye => if ye then Zi Z1l "behind" y0 fun yf => R.call (yf [y0, gUNLOCK]) () fun yg => R.few [yg, y2] fun yh => R.few [(.tup yh)] fun yi => R.lft (addA (.lst yb) (.lst yi)) fun yj => R.ok yj else R.ok (.lst yb)) fun yk => R.ok yk
  | _ => .no
theorem Zco : ∀ ds, Z3a ds ≠ .no -> ds.length = 1 := l1
def Z5s : Str -> Option (List D -> R Unit D) := fun C => if C = "Plain" then some Z3a else none
theorem sc_Plain_gaps : FnScope ["self", "many", "found"] ["self"] (defScope Z4p) := fsc
theorem Zao (F : Fun K "gaps" "Plain.gaps" Z4p f fd) (T : Txt P w K mg) (d_m_ahead : ∀ C mf, Zn C = some mf -> MethC P w K mg base 3 C "ahead" none mf) (d_m_behind : ∀ C mf, Z1l C = some mf -> MethC P w K mg base 4 C "behind" none mf) : FnG P w K mg base (L2.CX P w) 5 f fd ["self"] (spM K (mk0 1) none (Lp Z3a)) := by
  refine okP F sc_Plain_gaps rfl (fun _ A _ s H E hr hG te tk po ds hl => ?_)
  match ds, hl with
  | [y0], _ => exact AB.eq (Zf 1 () (Zh call_len Z3b PySem.boot_len T.z_len (by rfl) (Z3 (Z0 (Z41 T.f_own_pulls (Z0 (av 0 rfl)))) Z7)) wu (fun y1 => (Z1q () (Z9 (Z2f (u65 hr)) Z2g (Z0 (Zm T.gLOCK (by rfl))) (Z0 (Z41 T.f_own_pulls (Z0 (av 0 rfl)))) (by rfl)) wu (Za () () (Zx (Z1e (Z1 (Zg (Z1 Z5 (Z1 (av 1 rfl) Z2))) Z2))) wu wu rfl) (Zf 2 () (Zx (Z1e (Z1 (Zg (Z1 Z5 (Z1 (Z15 d_m_ahead (av 0 rfl) (Z1c (Z1 (Zm T.gLOCK (by rfl)) Z2)) (hm hr) hG tk) Z2))) Z2))) wu (fun y2 => (Za () () (a_if (Z9 (Z6c (u65 hr)) Z6d (Z0 (Zm T.gUNLOCK (by rfl))) (Z0 (Z41 T.f_own_pulls (Z0 (av 0 rfl)))) (by rfl)) (a_op Zd Ze (Z0 (av 2 rfl)) (Z0 (Zx (Z1e (Z1 (Zg (Z1 (Z15 d_m_behind (av 0 rfl) (Z1c (Z1 (Zm T.gUNLOCK (by rfl)) Z2)) (hm hr) hG tk) (Z1 (av 1 rfl) Z2))) Z2))))) (av 2 rfl)) wu wu rfl)) sc_Plain_gaps.nd lo))) sc_Plain_gaps.nd lo) rfl
def Z1h : List D -> R Unit D
  | [y0] => Z3d Zb "own_pulls" y0 fun y1 => R.lft (lenG [y1]) fun y2 => Z3d Zb "own_pulls" y0 fun y3 => R.lft (Z39 gEMPTY y3) fun y4 => R.asB y4 fun y5 => if y5 then R.few [(.int 0), y2] fun y6 => R.few [(.tup y6)] fun y7 => R.ok (.lst y7) else Zi Zn "ahead" y0 fun y8 => R.call (y8 [y0, gEMPTY]) () fun y9 => R.few [(.int 0), y9] fun ya => R.few [(.tup ya)] fun yb => R.join (fun (yc : D) => R.ok yc) fun yd => Z3d Z1z "own_opens" y0 fun ye => R.lft (eqG ye (.str "locked")) fun yf => R.asB yf fun yg => if yg then Zi Z5s "gaps" y0 fun yh => R.call (yh [y0]) () fun yi => R.items yi fun yj => R.after (R.for' yj () fun yk yl => R.tup2 yk fun ym yn => Zi Z1l "behind" y0 fun yo => R.call (yo [y0, gEMPTY]) () fun yp => R.lft (Z9m [ym, yp]) fun yq => R.bind (Zi Zn "ahead" y0 fun yr => R.call (yr [y0, gOUT]) () fun ys => R.lft (leG ym ys) fun yt => R.asB yt fun yu => if yu then Zi Zn "ahead" y0 fun yv => R.call (yv [y0, gLET]) () fun yw => R.lft (Zdg [yn, yw]) fun yx => R.lft (leG yq yx) fun yy => R.asB yy fun yz => R.ok yz else R.ok false) fun y10 => if y10 then R.asQ (.lst yb) fun y11 => R.few [yq, y2] fun y12 => R.few (y11 ++ [(.tup y12)]) fun y13 => R.ok (Step.rt (.lst y13) ()) else R.ok (Step.nx ())) (fun y14 => yd (.lst yb)) fun y15 y16 => R.ok y15 else Zi Z1l "behind" y0 fun y17 => R.call (y17 [y0, gEMPTY]) () fun y18 => Zi Zn "ahead" y0 fun y19 => R.call (y19 [y0, gLET]) () fun y1a => R.lft (leG y18 y1a) fun y1b => R.asB y1b fun y1c => if y1c then R.asL (.lst yb) fun y1d => Zi Z1l "behind" y0 fun y1e => R.call (y1e [y0, gEMPTY]) () fun y1f => R.few [y1f, y2] fun y1g => R.push y1d (.tup y1g) fun y1h => yd y1h else yd (.lst yb)
  | _ => .no
theorem Z88 : ∀ ds, Z1h ds ≠ .no -> ds.length = 1 := l1
def Z3j : Str -> Option (List D -> R Unit D) := fun C => if C = "Plain" then some Z1h else none
theorem sc_Plain_openings : FnScope ["self", "many", "found", "first", "last", "least"] ["self"] (defScope Z30) := fsc
theorem Z7g (F : Fun K "openings" "Plain.openings" Z30 f fd) (T : Txt P w K mg) (d_m_ahead : ∀ C mf, Zn C = some mf -> MethC P w K mg base 3 C "ahead" none mf) (d_m_behind : ∀ C mf, Z1l C = some mf -> MethC P w K mg base 4 C "behind" none mf) (d_m_gaps : ∀ C mf, Z5s C = some mf -> MethC P w K mg base 5 C "gaps" none mf) : FnG P w K mg base (L2.CX P w) 6 f fd ["self"] (spM K (mk0 1) none (Lp Z1h)) := by
  refine okP F sc_Plain_openings rfl (fun _ A _ s H E hr hG te tk po ds hl => ?_)
  match ds, hl with
  | [y0], _ => exact AB.eq (Zf 1 () (Zh call_len Z3b PySem.boot_len T.z_len (by rfl) (Z3 (Z0 (Z41 T.f_own_pulls (Z0 (av 0 rfl)))) Z7)) wu (fun y1 => (Z1q () (Z9 (Z2f (u65 hr)) Z2g (Z0 (Zm T.gEMPTY (by rfl))) (Z0 (Z41 T.f_own_pulls (Z0 (av 0 rfl)))) (by rfl)) wu (Za () () (Zx (Z1e (Z1 (Zg (Z1 Z5 (Z1 (av 1 rfl) Z2))) Z2))) wu wu rfl) (Z4h 2 () (Z1e (Z1 (Zg (Z1 Z5 (Z1 (Z15 d_m_ahead (av 0 rfl) (Z1c (Z1 (Zm T.gEMPTY (by rfl)) Z2)) (hm hr) hG tk) Z2))) Z2)) wu (fun y2 => (Zg7 (S := D) (fun (y3 : D) => [.fz y0, .fz y1, .ow none y3 [], .un, .un, .un]) () (Z9 (Zp hr.units) Z1r (Z0 (Z41 T.f_own_opens (Z0 (av 0 rfl)))) (Z0 Z4) (nomark _)) wu (fun y4 => (Z3y (S := Unit) (own := [3, 4]) (fun (y5 : Unit) => [.fz y0, .fz y1, .ow none y2 [], .un, .un, .un]) () (fun y6 => ()) () (Zl (Z15 d_m_gaps (av 0 rfl) Z6i (hm hr) hG tk)) wu (.k (.k (.k (.d (.d (.d .nil)))))) (fun y6 => wu) (fun y7 y8 => (Z37 rfl (fun y9 ya => (Z8 (Z6 3 (Z8 (Z6 4 (Z1u (Z2x [.fz y0, .fz y1, .ow none y2 [], .fz y9, .fz ya, .un] rfl (Zf 5 () (Zh (call_max2 rfl) Z7s boot_max T.z_max (by rfl) (Z3 (Z0 (av 3 rfl)) (Z3 (Z0 (Z15 d_m_behind (av 0 rfl) (Z1c (Z1 (Zm T.gEMPTY (by rfl)) Z2)) (hm hr) hG tk)) Z7))) wu (fun yb => (Z4s () (AW.at (Z3f (Z9 op_le Zc9 (Z0 (av 3 rfl)) (Z0 (Z15 d_m_ahead (av 0 rfl) (Z1c (Z1 (Zm T.gOUT (by rfl)) Z2)) (hm hr) hG tk)) (nomark _)) (Z2b (Z9 op_le Zc9 (Z0 (av 5 rfl)) (Z0 (Zh (call_min2 rfl) Zb6 boot_min T.z_min (by rfl) (Z3 (Z0 (av 4 rfl)) (Z3 (Z0 (Z15 d_m_ahead (av 0 rfl) (Z1c (Z1 (Zm T.gLET (by rfl)) Z2)) (hm hr) hG tk)) Z7)))) (nomark _))))) wu (Za () () (Zx (Z1e (Zit (al 2 rfl) (Z1 (Zg (Z1 (av 5 rfl) (Z1 (av 1 rfl) Z2))) Z2)))) wu (.k (.k (.k (.d (.d (.d .nil)))))) rfl) (Zr () (.k (.k (.k (.d (.d (.d .nil)))))) rfl))) sc_Plain_openings.nd lo))) sc_Plain_openings.nd lo)) sc_Plain_openings.nd lo))))) (fun yc => (Zr y2 (.k (.k (.k (.d (.d (.d .nil)))))) rfl)) rfl po rfl rfl)) (fun y4 => (Z4s () (Z9 op_le Zc9 (Z0 (Z15 d_m_behind (av 0 rfl) (Z1c (Z1 (Zm T.gEMPTY (by rfl)) Z2)) (hm hr) hG tk)) (Z0 (Z15 d_m_ahead (av 0 rfl) (Z1c (Z1 (Zm T.gLET (by rfl)) Z2)) (hm hr) hG tk)) (nomark _)) wu (Z4t (tag := none) (d := y2) 2 rfl () (Zg (Z1 (Z15 d_m_behind (av 0 rfl) (Z1c (Z1 (Zm T.gEMPTY (by rfl)) Z2)) (hm hr) hG tk) (Z1 (av 1 rfl) Z2))) wu (fun yd => (Zr yd (.k (.k (.k (.d (.d (.d .nil)))))) rfl))) (Zr y2 (.k (.k (.k (.d (.d (.d .nil)))))) rfl))) (fun ye => (Z60 2 rfl (Za () () (av 2 rfl) wu wu rfl))))) sc_Plain_openings.nd lo))) sc_Plain_openings.nd lo) rfl
def Zj : List D -> R Unit D
  | [y0] => R.few [gMARK, gWAIT, gEMPTY] fun y1 => R.items (.tup y1) fun y2 => R.few y2 fun y3 => R.lst (R.fmapS (fun y4 _ => R.bind (Z3d Zb "own_pulls" y0 fun y5 => R.lft (inA y4 y5) fun y6 => R.asB y6 fun y7 => if y7 then Zi Zn "ahead" y0 fun y8 => R.call (y8 [y0, y4]) () fun y9 => Zi Zn "ahead" y0 fun ya => R.call (ya [y0, gLET]) () fun yb => R.lft (gtG y9 yb) fun yc => R.ok yc else R.ok (.bl false)) fun yd => R.ok (some yd, ())) y3 ()) fun ye _ => R.lft (anyG [ye]) fun yf => R.ok yf
  | _ => .no
theorem Z5i : ∀ ds, Zj ds ≠ .no -> ds.length = 1 := l1
def Z16 : Str -> Option (List D -> R Unit D) := fun C => if C = "Plain" then some Zj else none
theorem sc_Plain_uses_behind_let : FnScope ["self", "word"] ["self"] (defScope Zt) := fsc
theorem Z51 (F : Fun K "uses_behind_let" "Plain.uses_behind_let" Zt f fd) (T : Txt P w K mg) (d_m_ahead : ∀ C mf, Zn C = some mf -> MethC P w K mg base 3 C "ahead" none mf) : FnG P w K mg base (L2.CX P w) 4 f fd ["self"] (spM K (mk0 1) none (Lp Zj)) := by
  refine okP F sc_Plain_uses_behind_let rfl (fun _ A _ s H E hr hG te tk po ds hl => ?_)
  match ds, hl with
  | [y0], _ => exact AB.eq (Za () () (Zh (cr_any rfl) Zij boot_any T.z_any (by rfl) (Z3 (Z0 (Zx (a_lc [("word", 1)] (Zl (Zg (Z1 (Zm T.gMARK (by rfl)) (Z1 (Zm T.gWAIT (by rfl)) (Z1 (Zm T.gEMPTY (by rfl)) Z2))))) (fun _ _ y1 => (Z6 1 (Zbd () (fun _ => (Z8b (Z2o (Z6c (u65 hr)) Z6d (Z0 (av 1 rfl)) (Z0 (Z41 T.f_own_pulls (Z0 (av 0 rfl)))) (by rfl)) (Z4z (Z2o op_gt Zdd (Z0 (Z15 d_m_ahead (av 0 rfl) (Z1c (Z1 (av 1 rfl) Z2)) (hm hr) hG tk0)) (Z0 (Z15 d_m_ahead (av 0 rfl) (Z1c (Z1 (Zm T.gLET (by rfl)) Z2)) (hm hr) hG tk0)) (nomark _))))) (.k (.d .nil)) rfl) sc_Plain_uses_behind_let.nd lo)) rfl sc_Plain_uses_behind_let.nd (blkOk_by (N := ["self", "word"]) (sc := defScope Zt) (by decide +kernel)) (Z1d rfl Z3e)))) Z7)) wu wu rfl) rfl
def Z1i : List D -> R Unit D
  | [y0] => Z3d Zb "own_pulls" y0 fun y1 => R.lft (Z39 gLOCK y1) fun y2 => R.asB y2 fun y3 => if y3 then R.ok (.bl false) else Zi Zn "ahead" y0 fun y4 => R.call (y4 [y0, gUNLOCK]) () fun y5 => R.bind (Z3d Z23 "own_asks" y0 fun y6 => R.lft (eqG y6 (.str "locked")) fun y7 => R.asB y7 fun y8 => if y8 then R.bind (Z3d Zb "own_pulls" y0 fun y9 => R.lft (inA gEMPTY y9) fun ya => R.asB ya fun yb => if yb then R.bind (Zi Zn "ahead" y0 fun yc => R.call (yc [y0, gLOCK]) () fun yd => Zi Zn "ahead" y0 fun ye => R.call (ye [y0, gEMPTY]) () fun yf => R.lft (ltG yd yf) fun yg => R.asB yg fun yh => if yh then R.lft (ltG yf y5) fun yi => R.ok yi else R.ok (.bl false)) fun yj => R.asB yj fun yk => R.ok yk else R.ok false) fun yl => R.ok yl else R.ok false) fun ym => if ym then R.ok (.bl true) else R.bind (Z3d Zb "own_pulls" y0 fun yn => R.lft (inA gUNLOCK yn) fun yo => R.asB yo fun yp => if yp then R.ok true else Z3d Z1z "own_opens" y0 fun yq => Z3d Z23 "own_asks" y0 fun yr => R.few [yq, yr] fun ys => R.lft (Z39 (.str "locked") (.tup ys)) fun yt => R.asB yt fun yu => R.ok yu) fun yv => if yv then R.ok (.bl false) else R.bind (Zi Z16 "uses_behind_let" y0 fun yw => R.call (yw [y0]) () fun yx => R.asB yx fun yy => R.asB (.bl (!yy)) fun yz => if yz then R.ok (.bl true) else R.bind (Z3d Zb "own_pulls" y0 fun y10 => R.lft (Z39 gEMPTY y10) fun y11 => R.asB y11 fun y12 => if y12 then R.ok (.bl true) else Zi Z3j "openings" y0 fun y13 => R.call (y13 [y0]) () fun y14 => R.lft (lenG [y14]) fun y15 => R.lft (eqG y15 (.int 2)) fun y16 => R.ok y16) fun y17 => R.ok y17) fun y18 => R.ok y18
  | _ => .no
theorem Z89 : ∀ ds, Z1i ds ≠ .no -> ds.length = 1 := l1
def Z5g : Str -> Option (List D -> R Unit D) := fun C => if C = "Plain" then some Z1i else none
theorem sc_Plain_is_stuck : FnScope ["self", "last"] ["self"] (defScope Z31) := fsc
theorem Z7h (F : Fun K "is_stuck" "Plain.is_stuck" Z31 f fd) (T : Txt P w K mg) (d_m_ahead : ∀ C mf, Zn C = some mf -> MethC P w K mg base 3 C "ahead" none mf) (d_m_openings : ∀ C mf, Z3j C = some mf -> MethC P w K mg base 6 C "openings" none mf) (d_m_uses_behind_let : ∀ C mf, Z16 C = some mf -> MethC P w K mg base 4 C "uses_behind_let" none mf) : FnG P w K mg base (L2.CX P w) 7 f fd ["self"] (spM K (mk0 1) none (Lp Z1i)) := by
  refine okP F sc_Plain_is_stuck rfl (fun _ A _ s H E hr hG te tk po ds hl => ?_)
  match ds, hl with
  | [y0], _ => exact AB.eq (Z1q () (Z9 (Z2f (u65 hr)) Z2g (Z0 (Zm T.gLOCK (by rfl))) (Z0 (Z41 T.f_own_pulls (Z0 (av 0 rfl)))) (by rfl)) wu (Za () () a_bl wu wu rfl) (Zf 1 () (Z15 d_m_ahead (av 0 rfl) (Z1c (Z1 (Zm T.gUNLOCK (by rfl)) Z2)) (hm hr) hG tk) wu (fun y1 => (Z1q () (AW.at (Z3f (Z9 (Zp hr.units) Z1r (Z0 (Z41 T.f_own_asks (Z0 (av 0 rfl)))) (Z0 Z4) (nomark _)) (Z3f (Z9 (Z6c (u65 hr)) Z6d (Z0 (Zm T.gEMPTY (by rfl))) (Z0 (Z41 T.f_own_pulls (Z0 (av 0 rfl)))) (by rfl)) (Z2b (Zk9 op_lt Zc8 op_lt Zc8 (Z0 (Z15 d_m_ahead (av 0 rfl) (Z1c (Z1 (Zm T.gLOCK (by rfl)) Z2)) (hm hr) hG tk)) (Z0 (Z15 d_m_ahead (av 0 rfl) (Z1c (Z1 (Zm T.gEMPTY (by rfl)) Z2)) (hm hr) hG tk)) (Z0 (av 1 rfl))))))) wu (Za () () a_bl wu wu rfl) (Z1q () (AW.at (Zba (Z9 (Z6c (u65 hr)) Z6d (Z0 (Zm T.gUNLOCK (by rfl))) (Z0 (Z41 T.f_own_pulls (Z0 (av 0 rfl)))) (by rfl)) (Z84 (Z9 (Z2f (u65 hr)) Z2g (Z0 Z4) (Z0 (Zg (Z1 (Z41 T.f_own_opens (Z0 (av 0 rfl))) (Z1 (Z41 T.f_own_asks (Z0 (av 0 rfl))) Z2)))) (by rfl))))) wu (Za () () a_bl wu wu rfl) (Za () () (a_or (Zqs (Z15 d_m_uses_behind_let (av 0 rfl) Z6i (hm hr) hG tk)) (a_or (Z2o (Z2f (u65 hr)) Z2g (Z0 (Zm T.gEMPTY (by rfl))) (Z0 (Z41 T.f_own_pulls (Z0 (av 0 rfl)))) (by rfl)) (Z4z (Z2o (Zp hr.units) Z1r (Z0 (Zh call_len Z3b PySem.boot_len T.z_len (by rfl) (Z3 (Z0 (Z15 d_m_openings (av 0 rfl) Z6i (hm hr) hG tk)) Z7))) (Z0 Z5) (nomark _))))) wu wu rfl)))) sc_Plain_is_stuck.nd lo)) rfl
def Z17 : List D -> R Unit D
  | [y0, y1, y2] => Z3d Z23 "own_asks" y0 fun y3 => R.lft (eqG y3 (.str "locked")) fun y4 => R.asB y4 fun y5 => if y5 then Zi Z5s "gaps" y0 fun y6 => R.call (y6 [y0]) () fun y7 => R.items y7 fun y8 => R.after (R.for' y8 () fun y9 ya => R.tup2 y9 fun yb yc => R.lft (Z9m [y1, yb]) fun yd => R.bind (Zi Zn "ahead" y0 fun ye => R.call (ye [y0, gMARK]) () fun yf => R.lft (Zdg [yc, yf]) fun yg => R.lft (leG yd yg) fun yh => R.asB yh fun yi => if yi then Zi Z1l "behind" y0 fun yj => R.call (yj [y0, gDOWN]) () fun yk => R.lft (Z9m [yd, yk]) fun yl => R.lft (Zdg [yc, y2]) fun ym => R.lft (leG yl ym) fun yn => R.asB yn fun yo => R.ok yo else R.ok false) fun yp => if yp then R.ok (Step.rt (.bl true) ()) else R.ok (Step.nx ())) (fun yq => R.ok (.bl false)) fun yr ys => R.ok yr else R.bind (Z3d Z23 "own_asks" y0 fun yt => R.lft (eqG yt (.str "ahead")) fun yu => R.asB yu fun yv => if yv then Zi Zn "ahead" y0 fun yw => R.call (yw [y0, gMARK]) () fun yx => R.lft (gtG y1 yx) fun yy => R.asB yy fun yz => R.ok yz else R.ok false) fun y10 => if y10 then R.ok (.bl false) else Zi Zn "ahead" y0 fun y11 => R.call (y11 [y0, gWAIT]) () fun y12 => R.few [y1, y12] fun y13 => Zi Z1l "behind" y0 fun y14 => R.call (y14 [y0, gWAIT]) () fun y15 => R.lft (Z9m [y1, y15]) fun y16 => Z3d Zb "own_pulls" y0 fun y17 => R.lft (lenG [y17]) fun y18 => R.few [y16, y18] fun y19 => R.few [(.tup y13), (.tup y19)] fun y1a => R.items (.tup y1a) fun y1b => R.after (R.for' y1b () fun y1c y1d => R.tup2 y1c fun y1e y1f => R.bind (Z3d Z23 "own_asks" y0 fun y1g => R.lft (neG y1g (.str "in")) fun y1h => R.asB y1h fun y1i => if y1i then R.ok (.bl true) else Zi Zn "ahead" y0 fun y1j => R.call (y1j [y0, gMARK]) () fun y1k => R.lft (leG y1e y1k) fun y1l => R.ok y1l) fun y1m => R.bind (R.asB y1m fun y1n => if y1n then Zi Z1l "behind" y0 fun y1o => R.call (y1o [y0, gDOWN]) () fun y1p => R.lft (Z9m [y1e, y1p]) fun y1q => R.lft (Zdg [y1f, y2]) fun y1r => R.lft (leG y1q y1r) fun y1s => R.asB y1s fun y1t => R.ok y1t else R.ok false) fun y1u => if y1u then R.ok (Step.rt (.bl true) ()) else R.ok (Step.nx ())) (fun y1v => R.ok (.bl false)) fun y1w y1x => R.ok y1w
  | _ => .no
theorem Z74 : ∀ ds, Z17 ds ≠ .no -> ds.length = 3 := l3
def Z45 : Str -> Option (List D -> R Unit D) := fun C => if C = "Plain" then some Z17 else none
theorem sc_Plain_is_touched : FnScope ["self", "lowest", "highest", "first", "last", "least", "most", "asked"] ["self", "lowest", "highest"] (defScope Z2c) := fsc
theorem Z6m (F : Fun K "is_touched" "Plain.is_touched" Z2c f fd) (T : Txt P w K mg) (d_m_ahead : ∀ C mf, Zn C = some mf -> MethC P w K mg base 3 C "ahead" none mf) (d_m_behind : ∀ C mf, Z1l C = some mf -> MethC P w K mg base 4 C "behind" none mf) (d_m_gaps : ∀ C mf, Z5s C = some mf -> MethC P w K mg base 5 C "gaps" none mf) : FnG P w K mg base (L2.CX P w) 6 f fd ["self", "lowest", "highest"] (spM K (mk0 3) none (Lp Z17)) := by
  refine okP F sc_Plain_is_touched rfl (fun _ A _ s H E hr hG te tk po ds hl => ?_)
  match ds, hl with
  | [y0, y1, y2], _ => exact AB.eq (Z1q () (Z9 (Zp hr.units) Z1r (Z0 (Z41 T.f_own_asks (Z0 (av 0 rfl)))) (Z0 Z4) (nomark _)) wu (Z3y (S := Unit) (own := [3, 4]) (fun (y3 : Unit) => [.fz y0, .fz y1, .fz y2, .un, .un, .un, .un, .un]) () (fun y4 => ()) () (Zl (Z15 d_m_gaps (av 0 rfl) Z6i (hm hr) hG tk)) wu (.k (.k (.k (.d (.d (.d (.d (.d .nil)))))))) (fun y4 => wu) (fun y5 y6 => (Z37 rfl (fun y7 y8 => (Z8 (Z6 3 (Z8 (Z6 4 (Z1u (Zf 5 () (Zh (call_max2 rfl) Z7s boot_max T.z_max (by rfl) (Z3 (Z0 (av 1 rfl)) (Z3 (Z0 (av 3 rfl)) Z7))) wu (fun y9 => (Z4s () (AW.at (Z3f (Z9 op_le Zc9 (Z0 (av 5 rfl)) (Z0 (Zh (call_min2 rfl) Zb6 boot_min T.z_min (by rfl) (Z3 (Z0 (av 4 rfl)) (Z3 (Z0 (Z15 d_m_ahead (av 0 rfl) (Z1c (Z1 (Zm T.gMARK (by rfl)) Z2)) (hm hr) hG tk)) Z7)))) (nomark _)) (Z2b (Z9 op_le Zc9 (Z0 (Zh (call_max2 rfl) Z7s boot_max T.z_max (by rfl) (Z3 (Z0 (av 5 rfl)) (Z3 (Z0 (Z15 d_m_behind (av 0 rfl) (Z1c (Z1 (Zm T.gDOWN (by rfl)) Z2)) (hm hr) hG tk)) Z7)))) (Z0 (Zh (call_min2 rfl) Zb6 boot_min T.z_min (by rfl) (Z3 (Z0 (av 4 rfl)) (Z3 (Z0 (av 2 rfl)) Z7)))) (nomark _))))) wu (Za () () a_bl wu (.k (.k (.k (.d (.d (.d (.d (.d .nil)))))))) rfl) (Zr () (.k (.k (.k (.d (.d (.d (.d (.d .nil)))))))) rfl))) sc_Plain_is_touched.nd lo)) sc_Plain_is_touched.nd lo)) sc_Plain_is_touched.nd lo))))) (fun ya => (Za () () a_bl wu wu rfl)) rfl po rfl rfl) (Z1q () (AW.at (Z3f (Z9 (Zp hr.units) Z1r (Z0 (Z41 T.f_own_asks (Z0 (av 0 rfl)))) (Z0 Z4) (nomark _)) (Z2b (Z9 op_gt Zdd (Z0 (av 1 rfl)) (Z0 (Z15 d_m_ahead (av 0 rfl) (Z1c (Z1 (Zm T.gMARK (by rfl)) Z2)) (hm hr) hG tk)) (nomark _))))) wu (Za () () a_bl wu wu rfl) (Z3y (S := Unit) (own := [5, 6]) (fun (yb : Unit) => [.fz y0, .fz y1, .fz y2, .un, .un, .un, .un, .un]) () (fun yc => ()) () (Zl (Zg (Z1 (Zg (Z1 (av 1 rfl) (Z1 (Z15 d_m_ahead (av 0 rfl) (Z1c (Z1 (Zm T.gWAIT (by rfl)) Z2)) (hm hr) hG tk) Z2))) (Z1 (Zg (Z1 (Zh (call_max2 rfl) Z7s boot_max T.z_max (by rfl) (Z3 (Z0 (av 1 rfl)) (Z3 (Z0 (Z15 d_m_behind (av 0 rfl) (Z1c (Z1 (Zm T.gWAIT (by rfl)) Z2)) (hm hr) hG tk)) Z7))) (Z1 (Zh call_len Z3b PySem.boot_len T.z_len (by rfl) (Z3 (Z0 (Z41 T.f_own_pulls (Z0 (av 0 rfl)))) Z7)) Z2))) Z2)))) wu (.k (.k (.k (.d (.d (.d (.d (.d .nil)))))))) (fun yc => wu) (fun yd ye => (Z37 rfl (fun yf yg => (Z8 (Z6 5 (Z8 (Z6 6 (Z1u (Zf 7 () (a_or (Z2o (Z50 hr.units) Z7j (Z0 (Z41 T.f_own_asks (Z0 (av 0 rfl)))) (Z0 Z4) (nomark _)) (Z4z (Z2o op_le Zc9 (Z0 (av 5 rfl)) (Z0 (Z15 d_m_ahead (av 0 rfl) (Z1c (Z1 (Zm T.gMARK (by rfl)) Z2)) (hm hr) hG tk)) (nomark _)))) wu (fun yh => (Z4s () (AW.at (Z3f (Z26 (av 7 rfl)) (Z2b (Z9 op_le Zc9 (Z0 (Zh (call_max2 rfl) Z7s boot_max T.z_max (by rfl) (Z3 (Z0 (av 5 rfl)) (Z3 (Z0 (Z15 d_m_behind (av 0 rfl) (Z1c (Z1 (Zm T.gDOWN (by rfl)) Z2)) (hm hr) hG tk)) Z7)))) (Z0 (Zh (call_min2 rfl) Zb6 boot_min T.z_min (by rfl) (Z3 (Z0 (av 6 rfl)) (Z3 (Z0 (av 2 rfl)) Z7)))) (nomark _))))) wu (Za () () a_bl wu (.k (.k (.k (.d (.d (.d (.d (.d .nil)))))))) rfl) (Zr () (.k (.k (.k (.d (.d (.d (.d (.d .nil)))))))) rfl))) sc_Plain_is_touched.nd lo)) sc_Plain_is_touched.nd lo)) sc_Plain_is_touched.nd lo))))) (fun yi => (Za () () a_bl wu wu rfl)) rfl po rfl rfl))) rfl
def Z1s : List D -> R Unit D
  | [y0] => Z3d Zb "own_pulls" y0 fun y1 => R.lft (Z39 gLET y1) fun y2 => R.asB y2 fun y3 => if y3 then R.ok (.bl false) else Zi Z16 "uses_behind_let" y0 fun y4 => R.call (y4 [y0]) () fun y5 => R.asB y5 fun y6 => if y6 then R.ok (.bl true) else Z3d Z1z "own_opens" y0 fun y7 => R.lft (eqG y7 (.str "locked")) fun y8 => R.asB y8 fun y9 => if y9 then Zi Z5s "gaps" y0 fun ya => R.call (ya [y0]) () fun yb => R.items yb fun yc => R.few yc fun yd => R.lst (R.fmapS (fun ye _ => R.tup2 ye fun yf yg => R.bind (Zi Zn "ahead" y0 fun yh => R.call (yh [y0, gOUT]) () fun yi => R.lft (leG yf yi) fun yj => R.asB yj fun yk => if yk then Zi Z1l "behind" y0 fun yl => R.call (yl [y0, gLET]) () fun ym => R.lft (geG yg ym) fun yn => R.ok yn else R.ok (.bl false)) fun yo => R.ok (some yo, ())) yd ()) fun yp _ => R.lft (anyG [yp]) fun yq => R.ok yq else Z3d Z1z "own_opens" y0 fun yr => R.lft (eqG yr (.str "bare")) fun ys => R.ok ys
  | _ => .no
theorem Z92 : ∀ ds, Z1s ds ≠ .no -> ds.length = 1 := l1
def Z64 : Str -> Option (List D -> R Unit D) := fun C => if C = "Plain" then some Z1s else none
theorem sc_Plain_is_used : FnScope ["self", "first", "last"] ["self"] (defScope Z2e) := fsc
theorem Z86 (F : Fun K "is_used" "Plain.is_used" Z2e f fd) (T : Txt P w K mg) (d_m_ahead : ∀ C mf, Zn C = some mf -> MethC P w K mg base 3 C "ahead" none mf) (d_m_behind : ∀ C mf, Z1l C = some mf -> MethC P w K mg base 4 C "behind" none mf) (d_m_gaps : ∀ C mf, Z5s C = some mf -> MethC P w K mg base 5 C "gaps" none mf) (d_m_uses_behind_let : ∀ C mf, Z16 C = some mf -> MethC P w K mg base 4 C "uses_behind_let" none mf) : FnG P w K mg base (L2.CX P w) 6 f fd ["self"] (spM K (mk0 1) none (Lp Z1s)) := by
  refine okP F sc_Plain_is_used rfl (fun _ A _ s H E hr hG te tk po ds hl => ?_)
  match ds, hl with
  | [y0], _ => exact AB.eq (Z1q () (Z9 (Z2f (u65 hr)) Z2g (Z0 (Zm T.gLET (by rfl))) (Z0 (Z41 T.f_own_pulls (Z0 (av 0 rfl)))) (by rfl)) wu (Za () () a_bl wu wu rfl) (Z1q () (Z26 (Z15 d_m_uses_behind_let (av 0 rfl) Z6i (hm hr) hG tk)) wu (Za () () a_bl wu wu rfl) (Z1q () (Z9 (Zp hr.units) Z1r (Z0 (Z41 T.f_own_opens (Z0 (av 0 rfl)))) (Z0 Z4) (nomark _)) wu (Za () () (Zh (cr_any rfl) Zij boot_any T.z_any (by rfl) (Z3 (Z0 (Zx (a_lc [("first", 1), ("last", 2)] (Zl (Z15 d_m_gaps (av 0 rfl) Z6i (hm hr) hG tk)) (fun _ _ y1 => (Z37 rfl (fun y2 y3 => (Z8 (Z6 1 (Z8 (Z6 2 (Z1u (Zbd () (fun _ => (Z8b (Z2o op_le Zc9 (Z0 (av 1 rfl)) (Z0 (Z15 d_m_ahead (av 0 rfl) (Z1c (Z1 (Zm T.gOUT (by rfl)) Z2)) (hm hr) hG tk0)) (nomark _)) (Z4z (Z2o op_ge Zp5 (Z0 (av 2 rfl)) (Z0 (Z15 d_m_behind (av 0 rfl) (Z1c (Z1 (Zm T.gLET (by rfl)) Z2)) (hm hr) hG tk0)) (nomark _))))) (.k (.d (.d .nil))) rfl)) sc_Plain_is_used.nd lo)) sc_Plain_is_used.nd lo))))) rfl sc_Plain_is_used.nd (blkOk_by (N := ["self", "first", "last"]) (sc := defScope Z2e) (by decide +kernel)) (Z1d rfl (Z1d rfl Z3e))))) Z7)) wu wu rfl) (Za () () (Z2o (Zp hr.units) Z1r (Z0 (Z41 T.f_own_opens (Z0 (av 0 rfl)))) (Z0 Z4) (nomark _)) wu wu rfl)))) rfl
def Z29 : List D -> R Unit D
  | [y0] => Zi Z3j "openings" y0 fun y1 => R.call (y1 [y0]) () fun y2 => R.items y2 fun y3 => R.few y3 fun y4 => R.lst (R.fmapS (fun y5 _ => R.tup2 y5 fun y6 y7 => Zi Z45 "is_touched" y0 fun y8 => R.call (y8 [y0, y6, y7]) () fun y9 => R.ok (some y9, ())) y4 ()) fun ya _ => R.lft (anyG [ya]) fun yb => R.few [gTOUCHED, yb] fun yc => Zi Z64 "is_used" y0 fun yd => R.call (yd [y0]) () fun ye => R.few [gUSED, ye] fun yf => Zi Z5g "is_stuck" y0 fun yg => R.call (yg [y0]) () fun yh => R.few [gSTUCK, yh] fun yi => R.few [(.tup yc), (.tup yf), (.tup yi)] fun yj => R.asL (.lst yj) fun yk => Z3d Zb "own_pulls" y0 fun yl => R.lft (Z39 gLET yl) fun ym => R.few [gKEPT, ym] fun yn => R.push yk (.tup yn) fun yo => R.items yo fun yp => R.few yp fun yq => R.lst (R.fmapS (fun yr _ => R.tup2 yr fun ys yt => R.asB yt fun yu => if yu then R.ok (some ys, ()) else R.ok (none, ())) yq ()) fun yv _ => R.ok yv
  | _ => .no
theorem Z9q : ∀ ds, Z29 ds ≠ .no -> ds.length = 1 := l1
def Z70 : Str -> Option (List D -> R Unit D) := fun C => if C = "Plain" then some Z29 else none
theorem sc_Plain_faults : FnScope ["self", "touched", "found", "lowest", "highest", "word", "comes"] ["self"] (defScope Z27) := fsc
theorem Z8s (F : Fun K "faults" "Plain.faults" Z27 f fd) (T : Txt P w K mg) (d_m_is_stuck : ∀ C mf, Z5g C = some mf -> MethC P w K mg base 7 C "is_stuck" none mf) (d_m_is_touched : ∀ C mf, Z45 C = some mf -> MethC P w K mg base 6 C "is_touched" none mf) (d_m_is_used : ∀ C mf, Z64 C = some mf -> MethC P w K mg base 6 C "is_used" none mf) (d_m_openings : ∀ C mf, Z3j C = some mf -> MethC P w K mg base 6 C "openings" none mf) : FnG P w K mg base (L2.CX P w) 8 f fd ["self"] (spM K (mk0 1) none (Lp Z29)) := by
  refine okP F sc_Plain_faults rfl (fun _ A _ s H E hr hG te tk po ds hl => ?_)
  match ds, hl with
  | [y0], _ => exact AB.eq (Zf 1 () (Zh (cr_any rfl) Zij boot_any T.z_any (by rfl) (Z3 (Z0 (Zx (a_lc [("lowest", 3), ("highest", 4)] (Zl (Z15 d_m_openings (av 0 rfl) Z6i (hm hr) hG tk)) (fun _ _ y1 => (Z37 rfl (fun y2 y3 => (Z8 (Z6 3 (Z8 (Z6 4 (Z1u (Zbd () (fun _ => (Z15 d_m_is_touched (av 0 rfl) (Z1c (Z1 (av 3 rfl) (Z1 (av 4 rfl) Z2))) (hm hr) hG tk0)) (.k (.d (.d (.d (.d (.d (.d .nil))))))) rfl)) sc_Plain_faults.nd lo)) sc_Plain_faults.nd lo))))) rfl sc_Plain_faults.nd (blkOk_by (N := ["self", "touched", "found", "lowest", "highest", "word", "comes"]) (sc := defScope Z27) (by decide +kernel)) (Z1d rfl (Z1d rfl Z3e))))) Z7)) wu (fun y4 => (Z4h 2 () (Z1e (Z1 (Zg (Z1 (Zm T.gTOUCHED (by rfl)) (Z1 (av 1 rfl) Z2))) (Z1 (Zg (Z1 (Zm T.gUSED (by rfl)) (Z1 (Z15 d_m_is_used (av 0 rfl) Z6i (hm hr) hG tk) Z2))) (Z1 (Zg (Z1 (Zm T.gSTUCK (by rfl)) (Z1 (Z15 d_m_is_stuck (av 0 rfl) Z6i (hm hr) hG tk) Z2))) Z2)))) wu (fun y5 => (Z4t (tag := none) (d := y5) 2 rfl () (Zg (Z1 (Zm T.gKEPT (by rfl)) (Z1 (Z2o (Z2f (u65 hr)) Z2g (Z0 (Zm T.gLET (by rfl))) (Z0 (Z41 T.f_own_pulls (Z0 (av 0 rfl)))) (by rfl)) Z2))) wu (fun y6 => (Z60 2 rfl (Za () () (Zx (a_lc [("word", 5), ("comes", 6)] (Zl (av 2 rfl)) (fun _ _ y7 => (Z37 rfl (fun y8 y9 => (Z8 (Z6 5 (Z8 (Z6 6 (Z1u (Z6h () (fun _ => (Z26 (av 6 rfl))) (fun _ => (av 5 rfl)) (.k (.k (.k (.d (.d (.d (.d .nil))))))) rfl)) sc_Plain_faults.nd lo)) sc_Plain_faults.nd lo))))) rfl sc_Plain_faults.nd (blkOk_by (N := ["self", "touched", "found", "lowest", "highest", "word", "comes"]) (sc := defScope Z27) (by decide +kernel)) (Z1d rfl (Z1d rfl Z3e)))) wu wu rfl))))) sc_Plain_faults.nd lo)) sc_Plain_faults.nd lo) rfl
def Z2h : List D -> R Unit D
  | [y0] => R.enumA y0 fun y1 => R.after (R.for' y1 () fun y2 y3 => R.tup2 y2 fun y4 y5 => R.bind (R.lft (isiG [y5, (.ty "str")]) fun y6 => R.asB y6 fun y7 => if (!y7) then R.ok true else R.bind (R.lft (Z39 y5 gPULLS) fun y8 => R.asB y8 fun y9 => if y9 then R.ok true else R.asI y4 fun ya => R.lft (slG y0 none (some ya)) fun yb => R.lft (inA y5 yb) fun yc => R.asB yc fun yd => R.ok yd) fun ye => R.ok ye) fun yf => if yf then R.ok (Step.rt y4 ()) else R.bind (R.bind (R.lft (eqG y5 gUNLOCK) fun yg => R.asB yg fun yh => if yh then R.asI y4 fun yi => R.lft (slG y0 none (some yi)) fun yj => R.lft (Z39 gLOCK yj) fun yk => R.asB yk fun yl => R.ok yl else R.ok false) fun ym => if ym then R.ok true else R.bind (R.lft (eqG y5 gLOCK) fun yn => R.asB yn fun yo => if yo then R.asI y4 fun yp => R.lft (slG y0 none (some yp)) fun yq => R.lft (inA gUNLOCK yq) fun yr => R.asB yr fun ys => R.ok ys else R.ok false) fun yt => R.ok yt) fun yu => if yu then R.ok (Step.rt y4 ()) else R.ok (Step.nx ())) (fun yv => R.ok .non) fun yw yx => R.ok yw
  | _ => .no
theorem Zch : ∀ ds, Z2h ds ≠ .no -> ds.length = 1 := l1
theorem sc_wrong_pull : FnScope ["pulls", "index", "word"] ["pulls"] (defScope Z4i) := fsc
theorem Zac (F : Fu K "wrong_pull" Z4i f fd) (T : Txt P w K mg) : FnG P w K mg base (L2.CX P w) 1 f fd ["pulls"] (spM K (mk0 1) none (Lp Z2h)) := by
  refine okP F sc_wrong_pull rfl (fun _ A _ s H E hr hG te tk po ds hl => ?_)
  match ds, hl with
  | [y0], _ => exact AB.eq (Z3y (S := Unit) (own := [1, 2]) (fun (y1 : Unit) => [.fz y0, .un, .un]) () (fun y2 => ()) () (Z69 T.z_enumerate (by rfl) (av 0 rfl)) wu (.k (.d (.d .nil))) (fun y2 => wu) (fun y3 y4 => (Z37 rfl (fun y5 y6 => (Z8 (Z6 1 (Z8 (Z6 2 (Z1u (Z1q () (AW.at (Zba (Z79 (Z26 (Zh call_isi Zfc boot_isinstance T.z_isinstance (by rfl) (Z3 (Z0 (av 2 rfl)) (Z3 (Z0 (Zko boot_str T.z_str (by rfl))) Z7))))) (Zba (Z9 (Z2f (u65 hr)) Z2g (Z0 (av 2 rfl)) (Z0 (Zm T.gPULLS (by rfl))) (by rfl)) (Z84 (Z9 (Z6c (u65 hr)) Z6d (Z0 (av 2 rfl)) (Z0 (a_sl (Z0 (av 0 rfl)) Z4g (Z2n (Z0 (av 1 rfl))))) (by rfl)))))) wu (Za () () (av 1 rfl) wu (.k (.d (.d .nil))) rfl) (Z4s () (AW.at (Zba (AW.at (Z3f (Z9 (Zp hr.units) Z1r (Z0 (av 2 rfl)) (Z0 (Zm T.gUNLOCK (by rfl))) (nomark _)) (Z2b (Z9 (Z2f (u65 hr)) Z2g (Z0 (Zm T.gLOCK (by rfl))) (Z0 (a_sl (Z0 (av 0 rfl)) Z4g (Z2n (Z0 (av 1 rfl))))) (by rfl))))) (Z84 (AW.at (Z3f (Z9 (Zp hr.units) Z1r (Z0 (av 2 rfl)) (Z0 (Zm T.gLOCK (by rfl))) (nomark _)) (Z2b (Z9 (Z6c (u65 hr)) Z6d (Z0 (Zm T.gUNLOCK (by rfl))) (Z0 (a_sl (Z0 (av 0 rfl)) Z4g (Z2n (Z0 (av 1 rfl))))) (by rfl)))))))) wu (Za () () (av 1 rfl) wu (.k (.d (.d .nil))) rfl) (Zr () (.k (.d (.d .nil))) rfl)))) sc_wrong_pull.nd lo)) sc_wrong_pull.nd lo))))) (fun y7 => (Za () () Z5o wu wu rfl)) rfl po rfl rfl) rfl
def Z1t : List D -> R Unit (D × D)
  | [y0, y1, y2, y3] => R.bind (R.lft (isiG [y1, (.ty "str")]) fun y4 => R.asB y4 fun y5 => if (!y5) then R.ok true else R.asS y1 fun y6 => R.ok (!(kOPENS.contains y6))) fun y7 => if y7 then R.raise "InvalidOption" ["value"] [y1] () else R.bind (R.lft (isiG [y2, (.ty "str")]) fun y8 => R.asB y8 fun y9 => if (!y9) then R.ok true else R.asS y2 fun ya => R.ok (!(kASKS.contains ya))) fun yb => if yb then R.raise "InvalidOption" ["value"] [y2] () else R.call (Z2h [y3]) () fun yc => R.lft (Z4u yc .non) fun yd => R.asB yd fun ye => if ye then R.raise "InvalidStep" ["index"] [yc] () else R.putF Z1z "own_opens" y0 y1 fun yf => R.putF Z23 "own_asks" yf y2 fun yg => R.putF Zb "own_pulls" yg y3 fun yh => R.ok (.non, yh)
  | _ => .no
def Z25 : List D -> R Unit (D × D) := Zbk 3 Z1t
theorem sc_Plain___init__ : FnScope ["self", "opens", "asks", "pulls", "wrong"] ["self", "opens", "asks", "pulls"] (defScope Z32) := fsc
theorem Z7i {f : Addr} (T : Txt P w K mg) (d_wrong_pull : Dfn P w K mg base 1 "wrong_pull" (mk0 1) none (Lp Z2h)) : Bod P w K mg base ["self", "opens", "asks", "pulls", "wrong"] "Plain.__init__" Z32 f 1 (spM K (some [] :: mk0 3) none (L1e Z1t)) := by
  refine Zl0 (m := 4) sc_Plain___init__ rfl rfl (fun _ A _ s H E hr hG te tk po o ds hl => ?_)
  match ds, hl with
  | [y0, y1, y2], _ =>
    exact AB.eq (Z1q () (AW.at (Zba (Z79 (Z26 (Zh call_isi Zfc boot_isinstance T.z_isinstance (by rfl) (Z3 (Z0 (av 1 rfl)) (Z3 (Z0 (Zko boot_str T.z_str (by rfl))) Z7))))) (Z84 (Zcw T.k_OPENS (by rfl) (Z0 (av 1 rfl)))))) wu (Z8j (k := 0) () T.x_InvalidOption (Z1c (Z1 (av 1 rfl) Z2)) wu rfl te (hm hr) (by rfl)) (Z1q () (AW.at (Zba (Z79 (Z26 (Zh call_isi Zfc boot_isinstance T.z_isinstance (by rfl) (Z3 (Z0 (av 2 rfl)) (Z3 (Z0 (Zko boot_str T.z_str (by rfl))) Z7))))) (Z84 (Zcw T.k_ASKS (by rfl) (Z0 (av 2 rfl)))))) wu (Z8j (k := 0) () T.x_InvalidOption (Z1c (Z1 (av 2 rfl) Z2)) wu rfl te (hm hr) (by rfl)) (Zf 4 () (Zw d_wrong_pull Zch (Z1 (av 3 rfl) Z2) (hm hr) hG tk (by rfl)) wu (fun y3 => (Z1q () (Z9 op_notN Z5f (Z0 (av 4 rfl)) (Z0 Z5o) (nomark _)) wu (Z8j (k := 0) () T.x_InvalidStep (Z1c (Z1 (av 4 rfl) Z2)) wu rfl te (hm hr) (by rfl)) (Zis (tag := (some 0)) (d := o) 0 rfl () T.f_own_opens (av 1 rfl) wu (fun y4 => (Zis (tag := (some 0)) (d := y4) 0 rfl () T.f_own_asks (av 2 rfl) wu (fun y5 => (Zis (tag := (some 0)) (d := y5) 0 rfl () T.f_own_pulls (av 3 rfl) wu (fun y6 => (Zr y6 (.k (.d (.d (.d (.d .nil))))) rfl))))))))) sc_Plain___init__.nd lo))) rfl
def Z3l : List D -> R Unit D
  | [y0, y1, y2] => R.lft (Z8y [y2]) fun y3 => R.asQ y3 fun y4 => R.make (Z25 ((.obj "Plain" []) :: (y0 :: (y1 :: (y4 ++ []))))) () fun y5 => R.ok y5
  | _ => .no
theorem Zfy : ∀ ds, Z3l ds ≠ .no -> ds.length = 3 := l3
theorem sc_Plain_of : FnScope ["opens", "asks", "pulls", "words"] ["opens", "asks", "pulls"] (defScope Z62) := fsc
theorem Zdb (F : Fun K "of" "Plain.of" Z62 f fd) (T : Txt P w K mg) (d_Plain : MakeC P w K mg base 2 "Plain" [] Z25) : FnG P w K mg base (L2.CX P w) 4 f fd ["opens", "asks", "pulls"] (spM K (mk0 3) none (Lp Z3l)) := by
  refine okP F sc_Plain_of rfl (fun _ A _ s H E hr hG te tk po ds hl => ?_)
  match ds, hl with
  | [y0, y1, y2], _ => exact AB.eq (Zf 3 () (Zx (Z7c call_list_of Z9b boot_list T.z_list (by rfl) (Z3 (Z0 (av 2 rfl)) Z7))) wu (fun y3 => (Za () () (Zx (Zqu d_Plain (Zrv (Z1 (av 0 rfl) (Z1 (av 1 rfl) (Zit (Z0 (av 3 rfl)) Z2)))) (hm hr) hG tk (by rfl))) wu wu rfl)) sc_Plain_of.nd lo) rfl
def Z1b : List D -> R Unit D
  | [y0, y1] => R.lft (ixG y1 (.int 0)) fun y2 => R.bind (R.lft (neG y2 (.str "let")) fun y3 => R.asB y3 fun y4 => if y4 then R.bind (R.lft (ixG y0 (.int 0)) fun y5 => R.asB y5 fun y6 => if y6 then R.ok (.bl true) else R.few [(.str "hold"), (.str "try")] fun y7 => R.lft (inA y2 (.lst y7)) fun y8 => R.ok y8) fun y9 => R.ok y9 else R.ok (.bl false)) fun ya => R.bind (R.lft (neG y2 (.str "leave")) fun yb => R.asB yb fun yc => if yc then R.bind (R.lft (ixG y0 (.int 1)) fun yd => R.asB yd fun ye => if ye then R.ok (.bl true) else R.lft (eqG y2 (.str "enter")) fun yf => R.ok yf) fun yg => R.ok yg else R.ok (.bl false)) fun yh => R.bind (R.lft (neG y2 (.str "unlock")) fun yi => R.asB yi fun yj => if yj then R.bind (R.lft (ixG y0 (.int 2)) fun yk => R.asB yk fun yl => if yl then R.ok (.bl true) else R.lft (eqG y2 (.str "lock")) fun ym => R.ok ym) fun yn => R.ok yn else R.ok (.bl false)) fun yo => R.few [ya, yh, yo] fun yp => R.ok (.lst yp)
  | _ => .no
theorem Z5v : ∀ ds, Z1b ds ≠ .no -> ds.length = 2 := l2
theorem sc__law_flags : FnScope ["_law_flags_here", "_law_item_here", "_law_word", "_law_holds", "_law_under"] ["_law_flags_here", "_law_item_here"] (defScope Z4m) := fsc
theorem Zak (F : Fu K "_law_flags" Z4m f fd) (T : Txt P w K mg) : FnG P w K mg base (L2.CX P w) 1 f fd ["_law_flags_here", "_law_item_here"] (spM K (mk0 2) none (Lp Z1b)) := by
  refine okP F sc__law_flags rfl (fun _ A _ s H E hr hG te tk po ds hl => ?_)
  match ds, hl with
  | [y0, y1], _ => exact AB.eq (Zf 2 () (a_ix (Z0 (av 1 rfl)) (Z0 Z5)) wu (fun y2 => (Zf 3 () (Z8b (Z2o (Z50 hr.units) Z7j (Z0 (av 2 rfl)) (Z0 Z4) (nomark _)) (Z4z (a_or (a_ix (Z0 (av 0 rfl)) (Z0 Z5)) (Z4z (Z2o (Z6c (u65 hr)) Z6d (Z0 (av 2 rfl)) (Z0 (Zx (Z1e (Z1 Z4 (Z1 Z4 Z2))))) (by rfl)))))) wu (fun y3 => (Zf 4 () (Z8b (Z2o (Z50 hr.units) Z7j (Z0 (av 2 rfl)) (Z0 Z4) (nomark _)) (Z4z (a_or (a_ix (Z0 (av 0 rfl)) (Z0 Z5)) (Z4z (Z2o (Zp hr.units) Z1r (Z0 (av 2 rfl)) (Z0 Z4) (nomark _)))))) wu (fun y4 => (Za () () (Zx (Z1e (Z1 (av 3 rfl) (Z1 (av 4 rfl) (Z1 (Z8b (Z2o (Z50 hr.units) Z7j (Z0 (av 2 rfl)) (Z0 Z4) (nomark _)) (Z4z (a_or (a_ix (Z0 (av 0 rfl)) (Z0 Z5)) (Z4z (Z2o (Zp hr.units) Z1r (Z0 (av 2 rfl)) (Z0 Z4) (nomark _)))))) Z2))))) wu wu rfl)) sc__law_flags.nd lo)) sc__law_flags.nd lo)) sc__law_flags.nd lo) rfl
def Z20 : List D -> R Unit D
  | [y0] => R.items y0 fun y1 => R.after (R.for' y1 (((.lst []), (.int 0)) : D × D) fun y2 y3 => R.asL y3.1 fun y4 => R.push y4 y3.2 fun y5 => R.lft (addA y3.2 (.int 1)) fun y6 => R.bind (R.asI (.int 2) fun y7 => R.lft (slG y2 (some y7) none) fun y8 => R.lft (truD y8) fun y9 => if y9 then R.lft (ixG y2 (.int 2)) fun ya => R.ok ya else R.ok y8) fun yb => R.lft (lenG [yb]) fun yc => R.lft (addA y6 yc) fun yd => R.ok (Step.nx ((y5, yd) : D × D))) (fun ye => R.few [(.bl false), (.bl false), (.bl false)] fun yf => R.enumA y0 fun yg => R.after (R.for' yg (((.lst []), (.lst yf)) : D × D) fun yh yi => R.tup2 yh fun yj yk => R.few [ye.2] fun yl => R.lft (addA ye.1 (.lst yl)) fun ym => R.lft (addA yj (.int 1)) fun yn => R.lft (ixG ym yn) fun yo => R.bind (R.lft (ixG yk (.int 0)) fun yp => R.lft (eqG yp (.str "ask")) fun yq => R.asB yq fun yr => if yr then R.lft (ixG yk (.int 2)) fun ys => R.ok ys else R.few [] fun yt => R.ok (.tup yt)) fun yu => R.bind (R.few [] fun yv => R.lft (neG yu (.tup yv)) fun yw => R.asB yw fun yx => if yx then R.lft (ixG ye.1 yj) fun yy => R.lft (addA yy (.int 1)) fun yz => R.ok yz else R.ok ye.2) fun y10 => R.asL yi.1 fun y11 => R.few [yk, yo, y10] fun y12 => R.lft (addA (.lst y12) yi.2) fun y13 => R.push y11 y13 fun y14 => R.call (Z1b [yi.2, yk]) () fun y15 => R.enumA yu fun y16 => R.after (R.for' y16 ((y14, y15) : D × D) fun y17 y18 => R.tup2 y17 fun y19 y1a => R.bind (R.lft (addA y19 (.int 1)) fun y1b => R.lft (lenG [yu]) fun y1c => R.lft (ltG y1b y1c) fun y1d => R.asB y1d fun y1e => if y1e then R.lft (ixG ye.1 yj) fun y1f => R.lft (addA y1f (.int 2)) fun y1g => R.lft (addA y1g y19) fun y1h => R.ok y1h else R.ok ye.2) fun y1i => R.asL y18.1 fun y1j => R.few [y1a, y1i, y1i] fun y1k => R.lft (addA (.lst y1k) y18.2) fun y1l => R.push y1j y1l fun y1m => R.call (Z1b [y18.2, y1a]) () fun y1n => R.ok (Step.nx ((y1m, y1n) : D × D))) (fun y1o => R.ok (Step.nx ((y1o.1, y15) : D × D))) fun y1p y1q => R.ok (Step.rt y1p ((y1q.1, y15) : D × D))) (fun y1r => R.ok y1r.1) fun y1s y1t => R.ok y1s) fun y1u y1v => R.ok y1u
  | _ => .no
theorem Z90 : ∀ ds, Z20 ds ≠ .no -> ds.length = 1 := l1
theorem sc__law_laid : FnScope ["_law_items", "_law_found", "_law_starts", "_law_at", "_law_item_here", "_law_flags_here", "_law_index", "_law_behind", "_law_out", "_law_other", "_law_inner", "_law_k", "_law_one", "_law_later_here"] ["_law_items"] (defScope Z59) := fsc
theorem Zbz (F : Fu K "_law_laid" Z59 f fd) (T : Txt P w K mg) (d__law_flags : Dfn P w K mg base 1 "_law_flags" (mk0 2) none (Lp Z1b)) : FnG P w K mg base (L2.CX P w) 2 f fd ["_law_items"] (spM K (mk0 1) none (Lp Z20)) := by
  refine okP F sc__law_laid rfl (fun _ A _ s H E hr hG te tk po ds hl => ?_)
  match ds, hl with
  | [y0], _ => exact AB.eq (Zkn 1 2 3 (az_l (az_l (az_s as_int Zqh))) (Z3y (S := D × D) (own := [4]) (fun (y1 : D × D) => [.fz y0, .ow none (.lst []) [], .ow none y1.1 [], .fz y1.2, .un, .un, .un, .un, .un, .un, .un, .un, .un, .un]) (((.lst []), (.int 0)) : D × D) (fun y2 => ()) () (Zl (av 0 rfl)) wu (.k (.k (.k (.k (.d (.d (.d (.d (.d (.d (.d (.d (.d (.d .nil)))))))))))))) (fun y2 => wu) (fun y3 y4 => (Z6 4 (Z2x [.fz y0, .ow none (.lst []) [], .ow none y3.1 [], .fz y3.2, .fz y4, .un, .un, .un, .un, .un, .un, .un, .un, .un] rfl (Z4t (tag := none) (d := y3.1) 2 rfl () (av 3 rfl) wu (fun y5 => (Zf 3 () (a_op Zd Ze (Z0 (a_op Zd Ze (Z0 (av 3 rfl)) (Z0 Z5))) (Z0 (Zh call_len Z3b PySem.boot_len T.z_len (by rfl) (Z3 (Z0 (Zll (a_sl (Z0 (av 4 rfl)) (Z2n (Z0 Z5)) Z4g) (Z4z (a_ix (Z0 (av 4 rfl)) (Z0 Z5))))) Z7)))) wu (fun y6 => (Zr ((y5, y6) : D × D) (.k (.k (.k (.k (.d (.d (.d (.d (.d (.d (.d (.d (.d (.d .nil)))))))))))))) rfl)) sc__law_laid.nd lo)))) sc__law_laid.nd lo)) (fun y7 => (Zf 5 () (Zx (Z1e (Z1 a_bl (Z1 a_bl (Z1 a_bl Z2))))) wu (fun y8 => (Z3y (S := D × D) (own := [6, 4]) (fun (y9 : D × D) => [.fz y0, .ow none y9.1 [], .ow none y7.1 [], .fz y7.2, .un, .fz y9.2, .un, .un, .un, .un, .un, .un, .un, .un]) (((.lst []), y8) : D × D) (fun ya => ()) () (Z69 T.z_enumerate (by rfl) (av 0 rfl)) wu (.k (.k (.k (.k (.d (.k (.d (.d (.d (.d (.d (.d (.d (.d .nil)))))))))))))) (fun ya => wu) (fun yb yc => (Z37 rfl (fun yd ye => (Z8 (Z6 6 (Z8 (Z6 4 (Z1u (Z2x [.fz y0, .ow none yb.1 [], .ow none y7.1 [], .fz y7.2, .fz ye, .fz yb.2, .fz yd, .un, .un, .un, .un, .un, .un, .un] rfl (Zf 7 () (a_ix (Z0 (a_op Zd Ze (al 2 rfl) (Z0 (Zx (Z1e (Z1 (av 3 rfl) Z2)))))) (Z0 (a_op Zd Ze (Z0 (av 6 rfl)) (Z0 Z5)))) wu (fun yf => (Zf 8 () (a_if (Z9 (Zp hr.units) Z1r (Z0 (a_ix (Z0 (av 4 rfl)) (Z0 Z5))) (Z0 Z4) (nomark _)) (a_ix (Z0 (av 4 rfl)) (Z0 Z5)) (Zg Z2)) wu (fun yg => (Zf 9 () (a_if (Z9 (Z50 hr.units) Z7j (Z0 (av 8 rfl)) (Z0 (Zg Z2)) (nomark _)) (a_op Zd Ze (Z0 (a_ix (al 2 rfl) (Z0 (av 6 rfl)))) (Z0 Z5)) (av 3 rfl)) wu (fun yh => (Z4t (tag := none) (d := yb.1) 1 rfl () (a_op Zd Ze (Z0 (Zx (Z1e (Z1 (av 4 rfl) (Z1 (av 7 rfl) (Z1 (av 9 rfl) Z2)))))) (Z0 (av 5 rfl))) wu (fun yi => (Z2x [.fz y0, .ow none yi [], .ow none y7.1 [], .fz y7.2, .fz ye, .fz yb.2, .fz yd, .fz yf, .fz yg, .fz yh, .un, .un, .un, .un] rfl (Zf 5 () (Zw d__law_flags Z5v (Z1 (av 5 rfl) (Z1 (av 4 rfl) Z2)) (hm hr) hG tk (by rfl)) wu (fun yj => (Zf 10 () (av 5 rfl) wu (fun yk => (Z3y (S := D × D) (own := [11, 12]) (fun (yl : D × D) => [.fz y0, .ow none yl.1 [], .ow none y7.1 [], .fz y7.2, .fz ye, .fz yj, .fz yd, .fz yf, .fz yg, .fz yh, .fz yl.2, .un, .un, .un]) ((yi, yk) : D × D) (fun ym => ((ym.1, yj) : D × D)) () (Z69 T.z_enumerate (by rfl) (av 8 rfl)) wu (.k (.k (.k (.k (.k (.k (.k (.k (.k (.k (.k (.d (.d (.d .nil)))))))))))))) (fun ym => (.k (.k (.k (.k (.d (.k (.d (.d (.d (.d (.d (.d (.d (.d .nil))))))))))))))) (fun yn yo => (Z37 rfl (fun yp yq => (Z8 (Z6 11 (Z8 (Z6 12 (Z1u (Z2x [.fz y0, .ow none yn.1 [], .ow none y7.1 [], .fz y7.2, .fz ye, .fz yj, .fz yd, .fz yf, .fz yg, .fz yh, .fz yn.2, .fz yp, .fz yq, .un] rfl (Zf 13 () (a_if (Z9 op_lt Zc8 (Z0 (a_op Zd Ze (Z0 (av 11 rfl)) (Z0 Z5))) (Z0 (Zh call_len Z3b PySem.boot_len T.z_len (by rfl) (Z3 (Z0 (av 8 rfl)) Z7))) (nomark _)) (a_op Zd Ze (Z0 (a_op Zd Ze (Z0 (a_ix (al 2 rfl) (Z0 (av 6 rfl)))) (Z0 Z5))) (Z0 (av 11 rfl))) (av 3 rfl)) wu (fun yr => (Z4t (tag := none) (d := yn.1) 1 rfl () (a_op Zd Ze (Z0 (Zx (Z1e (Z1 (av 12 rfl) (Z1 (av 13 rfl) (Z1 (av 13 rfl) Z2)))))) (Z0 (av 10 rfl))) wu (fun ys => (Zf 10 () (Zw d__law_flags Z5v (Z1 (av 10 rfl) (Z1 (av 12 rfl) Z2)) (hm hr) hG tk (by rfl)) wu (fun yt => (Zr ((ys, yt) : D × D) (.k (.k (.k (.k (.k (.k (.k (.k (.k (.k (.k (.d (.d (.d .nil)))))))))))))) rfl)) sc__law_laid.nd lo)))) sc__law_laid.nd lo))) sc__law_laid.nd lo)) sc__law_laid.nd lo))))) (fun yu => (Zr ((yu.1, yj) : D × D) (.k (.k (.k (.k (.d (.k (.d (.d (.d (.d (.d (.d (.d (.d .nil)))))))))))))) rfl)) rfl po rfl rfl)) sc__law_laid.nd lo)) sc__law_laid.nd lo))))) sc__law_laid.nd lo)) sc__law_laid.nd lo)) sc__law_laid.nd lo))) sc__law_laid.nd lo)) sc__law_laid.nd lo))))) (fun yv => (Z60 1 rfl (Za () () (av 1 rfl) wu wu rfl))) rfl po rfl rfl)) sc__law_laid.nd lo)) rfl po rfl rfl) rfl sc__law_laid.nd) rfl
def Z35 : List D -> R Unit D
  | [y0] => R.lft (dixG y0 (.str "hands")) fun y1 => R.call (Z20 [y1]) () fun y2 => R.ky (.str "hands") fun y3 => R.lft (dixG y0 (.str "works")) fun y4 => R.lft ((or2 Zec Zed) [y4]) fun y5 => R.ky (.str "names") fun y6 => R.lft (dixG y0 (.str "puller")) fun y7 => R.ky (.str "puller") fun y8 => if ([(y3, y2), (y6, y5), (y8, y7)] : List (Key × D)).length ≤ 15 then R.asDct (.dct (Z4v [] [(y3, y2), (y6, y5), (y8, y7)])) fun y9 => R.lft (dixG (.dct (Z4v [] [(y3, y2), (y6, y5), (y8, y7)])) (.str "names")) fun ya => R.items ya fun yb => R.few yb fun yc => R.lst (R.fmapS (fun yd _ => R.lft (dixG y0 (.str "works")) fun ye => R.lft (dixG ye yd) fun yf => R.call (Z20 [yf]) () fun yg => R.ok (some yg, ())) yc ()) fun yh _ => R.putDct y9 (.str "works") yh fun yi => R.ok yi else R.no
  | _ => .no
theorem Zdl : ∀ ds, Z35 ds ≠ .no -> ds.length = 1 := l1
theorem sc__law_case : FnScope ["_law_plan", "_law_case_here", "_law_name"] ["_law_plan"] (defScope Z48) := fsc
theorem Zc6 (F : Fu K "_law_case" Z48 f fd) (T : Txt P w K mg) (d__law_laid : Dfn P w K mg base 2 "_law_laid" (mk0 1) none (Lp Z20)) : FnG P w K mg base (L2.CX P w) 3 f fd ["_law_plan"] (spM K (mk0 1) none (Lp Z35)) := by
  refine okP F sc__law_case rfl (fun _ A _ s H E hr hG te tk po ds hl => ?_)
  match ds, hl with
  | [y0], _ => exact AB.eq (Z4h 1 () (ANn.an (Z7a (Z3g Z4 (Zw d__law_laid Z90 (Z1 (Z1v (Z0 (av 0 rfl)) Z4 (u1 hr)) Z2) (hm hr) hG tk (by rfl)) (Z3g Z4 (Zx (Zff (Zqd cr_sortedS (call_sortedD rfl)) (Zqe Zg4 Zdy) boot_sorted T.z_sorted (by rfl) (Z3 (Z0 (Z1v (Z0 (av 0 rfl)) Z4 (u1 hr))) Z7))) (Z3g Z4 (Z1v (Z0 (av 0 rfl)) Z4 (u1 hr)) Z9e))) rfl rfl (by decide) (by decide))) wu (fun y1 => (Z7v (tag := none) (d := y1) 1 rfl () Z4 (Zx (a_lc [("_law_name", 2)] (Zl (Z1v (al 1 rfl) Z4 (u1 hr))) (fun _ _ y2 => (Z6 2 (Zbd () (fun _ => (Zw d__law_laid Z90 (Z1 (Z1v (Z0 (Z1v (Z0 (av 0 rfl)) Z4 (u1 hr))) (av 2 rfl) (u1 hr)) Z2) (hm hr) hG tk0 (by rfl))) (.k (.k (.d .nil))) rfl) sc__law_case.nd lo)) rfl sc__law_case.nd (blkOk_by (N := ["_law_plan", "_law_case_here", "_law_name"]) (sc := defScope Z48) (by decide +kernel)) (Z1d rfl Z3e))) wu (fun y3 => (Z60 1 rfl (Za () () (av 1 rfl) wu wu rfl))) (u1 hr))) sc__law_case.nd lo) rfl
def Zo : List D -> R Unit (D × D)
  | [y0, y1] => R.lft (ixG y0 (.int 1)) fun y2 => R.asL y0 fun y3 => R.lft (addA y2 (.int 1)) fun y4 => R.setAt y3 (.int 1) y4 fun y5 => R.bind (R.lft (ixG y5 (.int 0)) fun y6 => R.lft (lenG [y6]) fun y7 => R.lft (ltG y2 y7) fun y8 => R.asB y8 fun y9 => if y9 then R.lft (ixG y5 (.int 0)) fun ya => R.lft (ixG ya y2) fun yb => R.lft (Z4y [yb]) fun yc => R.lft (modG yc y1) fun yd => R.ok yd else R.ok (.int 0)) fun ye => R.ok (ye, y5)
  | _ => .no
theorem Z2m : ∀ o ds, Zo (o :: ds) ≠ .no -> ds.length = 1 := by
  intro o ds h
  unfold Zo at h
  split at h
  · rename_i e; cases e; rfl
  · exact absurd rfl h
theorem sc__law_draw : FnScope ["_law_pool_here", "_law_many", "_law_at"] ["_law_pool_here", "_law_many"] (defScope Z5d) := fsc
theorem Zc4 (F : Fu K "_law_draw" Z5d f fd) (T : Txt P w K mg) : FnG P w K mg base (L2.CX P w) 1 f fd ["_law_pool_here", "_law_many"] (spM K (some [] :: mk0 1) none (L1e Zo)) := by
  refine okR0 (m := 2) F sc__law_draw rfl rfl (fun _ A _ s H E hr hG te tk po o ds hl => ?_)
  match ds, hl with
  | [y0], _ =>
    exact AB.eq (Zf 2 () (a_ix (al 0 rfl) (Z0 Z5)) wu (fun y1 => (Z7b (tag := (some 0)) (d := o) 0 rfl () (Z0 Z5) (a_op Zd Ze (Z0 (av 2 rfl)) (Z0 Z5)) wu (fun y2 => (Za () y2 (a_if (Z9 op_lt Zc8 (Z0 (av 2 rfl)) (Z0 (Zh call_len Z3b PySem.boot_len T.z_len (by rfl) (Z3 (Z0 (a_ix (al 0 rfl) (Z0 Z5))) Z7))) (nomark _)) (a_op op_mod Z7y (Z0 (Z38 call_int1 Z6g boot_int T.z_int (by rfl) (Z3 (Z0 (a_ix (Z0 (a_ix (al 0 rfl) (Z0 Z5))) (Z0 (av 2 rfl)))) Z7))) (Z0 (av 1 rfl))) Z5) wu (.k (.d (.d .nil))) rfl)))) sc__law_draw.nd lo) rfl
def Z18 : List D -> R Unit (D × D)
  | [y0, y1] => R.lft (lenG [y1]) fun y2 => R.call1e (Zo [y0, y2]) () fun y3 y4 => R.lft (ixG y1 y3) fun y5 => R.ok (y5, y4)
  | _ => .no
theorem Z6o : ∀ o ds, Z18 (o :: ds) ≠ .no -> ds.length = 1 := by
  intro o ds h
  unfold Z18 at h
  split at h
  · rename_i e; cases e; rfl
  · exact absurd rfl h
theorem Zbq : FnScope ["_law_pool_here", "_law_some"] ["_law_pool_here", "_law_some"] (defScope Z58) := fsc
theorem Zby (F : Fu K "_law_pick" Z58 f fd) (T : Txt P w K mg) (d__law_draw : Dfn P w K mg base 1 "_law_draw" (some [] :: mk0 1) none (L1e Zo)) : FnG P w K mg base (L2.CX P w) 2 f fd ["_law_pool_here", "_law_some"] (spM K (some [] :: mk0 1) none (L1e Z18)) := by
  refine okR0 (m := 1) F Zbq rfl rfl (fun _ A _ s H E hr hG te tk po o ds hl => ?_)
  match ds, hl with
  | [y0], _ =>
    exact AB.eq (Zir (tag := (some 0)) (fs := []) (w := o) 0 rfl () (fun y1 => y1) (Zrt (AE.lift (av 1 rfl)) (fun y2 => (Z3n d__law_draw Z2m (Z1p (AE.lift (Zh call_len Z3b PySem.boot_len T.z_len (by rfl) (Z3 (Z0 (av 1 rfl)) Z7))) (fun y3 => (AA.lift Z2))) rfl (hm hr) hG tk (by rfl)))) (fun _ => wu) (fun y1 => (.k (.d .nil))) rfl) rfl
def Z1y : List D -> R Unit (D × D)
  | [y0] => R.few [(.str "bare"), (.str "tried"), (.str "locked")] fun y1 => R.call1e (Z18 [y0, (.lst y1)]) () fun y2 y3 => R.few [(.str "in"), (.str "ahead"), (.str "none"), (.str "locked"), (.str "in")] fun y4 => R.call1e (Z18 [y3, (.lst y4)]) () fun y5 y6 => R.few [y2, y5] fun y7 => R.ok ((.lst y7), y6)
  | _ => .no
theorem Zck : ∀ o ds, Z1y (o :: ds) ≠ .no -> ds.length = 0 := by
  intro o ds h
  unfold Z1y at h
  split at h
  · rename_i e; cases e; rfl
  · exact absurd rfl h
theorem Za9 : FnScope ["_law_pool_here"] ["_law_pool_here"] (defScope Z4l) := fsc
theorem Zai (F : Fu K "_law_kinds" Z4l f fd) (T : Txt P w K mg) (d__law_pick : Dfn P w K mg base 2 "_law_pick" (some [] :: mk0 1) none (L1e Z18)) : FnG P w K mg base (L2.CX P w) 3 f fd ["_law_pool_here"] (spM K (some [] :: mk0 0) none (L1e Z1y)) := by
  refine okR0 (m := 0) F Za9 rfl rfl (fun _ A _ s H E hr hG te tk po o ds hl => ?_)
  match ds, hl with
  | [], _ =>
    exact AB.eq (Zir (tag := (some 0)) (fs := []) (w := o) 0 rfl () (fun y0 => y0) (Zqn (Z1p (Z3n d__law_pick Z6o (Z1p (AE.lift (Zx (Z1e (Z1 Z4 (Z1 Z4 (Z1 Z4 Z2)))))) (fun y1 => (AA.lift Z2))) rfl (hm hr) hG tk (by rfl)) (fun y2 => (Z1p (Z3n d__law_pick Z6o (Z1p (AE.lift (Zx (Z1e (Z1 Z4 (Z1 Z4 (Z1 Z4 (Z1 Z4 (Z1 Z4 Z2)))))))) (fun y3 => (AA.lift Z2))) rfl (hm hr) hG tk (by rfl)) (fun y4 => (AA.lift Z2)))))) (fun _ => wu) (fun y0 => (.k .nil)) rfl) rfl
def Z1g : List D -> R Unit D
  | [y0, y1] => R.few [(.str "let")] fun y2 => R.few [(.tup y2)] fun y3 => R.few [(.str "leave")] fun y4 => R.few [(.str "let")] fun y5 => R.few [(.tup y4), (.tup y5)] fun y6 => R.few [(.tup y3), (.tup y6)] fun y7 => R.tup2 (.tup y7) fun y8 y9 => R.few [(.str "look")] fun ya => R.few [(.str "hold")] fun yb => R.few [(.tup ya), (.tup yb)] fun yc => R.ky (.str "bare") fun yd => R.few [(.str "look")] fun ye => R.few [(.str "try")] fun yf => R.few [(.tup ye), (.tup yf)] fun yg => R.ky (.str "tried") fun yh => if ([(yd, (.tup yc)), (yh, (.tup yg))] : List (Key × D)).length ≤ 15 then R.asDct (.dct (Z4v [] [(yd, (.tup yc)), (yh, (.tup yg))])) fun yi => R.few [(.str "lock")] fun yj => R.few [(.str "look")] fun yk => R.few [(.str "hold")] fun yl => R.few [(.str "unlock")] fun ym => R.few [(.tup yj), (.tup yk), (.tup yl), (.tup ym)] fun yn => R.putDct yi (.str "locked") (.tup yn) fun yo => R.few [(.str "enter")] fun yp => R.few [(.str "ask"), (.str "gone"), y9] fun yq => R.few [(.str "touch")] fun yr => R.few [(.tup yp), (.tup yq), (.tup yr)] fun ys => R.lft (addA (.tup ys) y9) fun yt => R.ky (.str "in") fun yu => if ([(yu, yt)] : List (Key × D)).length ≤ 15 then R.asDct (.dct (Z4v [] [(yu, yt)])) fun yv => R.few [(.str "ask"), (.str "gone"), y8] fun yw => R.few [(.str "enter")] fun yx => R.few [(.str "touch")] fun yy => R.few [(.tup yw), (.tup yx), (.tup yy)] fun yz => R.lft (addA (.tup yz) y9) fun y10 => R.putDct yv (.str "ahead") y10 fun y11 => R.asDct y11 fun y12 => R.few [(.str "enter")] fun y13 => R.few [(.str "touch")] fun y14 => R.few [(.tup y13), (.tup y14)] fun y15 => R.lft (addA (.tup y15) y9) fun y16 => R.putDct y12 (.str "none") y16 fun y17 => R.few [(.str "unlock")] fun y18 => R.few [(.str "let")] fun y19 => R.few [(.tup y18), (.tup y19)] fun y1a => R.asDct y17 fun y1b => R.few [(.str "lock")] fun y1c => R.few [(.str "ask"), (.str "gone"), (.tup y1a)] fun y1d => R.few [(.str "touch")] fun y1e => R.few [(.tup y1c), (.tup y1d), (.tup y1e)] fun y1f => R.lft (addA (.tup y1f) (.tup y1a)) fun y1g => R.putDct y1b (.str "locked") y1g fun y1h => R.lft (dixG yo y0) fun y1i => R.lft (dixG y1h y1) fun y1j => R.lft (addA y1i y1j) fun y1k => R.ok y1k else R.no else R.no
  | _ => .no
theorem Z87 : ∀ ds, Z1g ds ≠ .no -> ds.length = 2 := l2
theorem sc__law_plain_row : FnScope ["_law_opens", "_law_asks", "_law_let", "_law_leave", "_law_rows", "_law_some", "_law_out"] ["_law_opens", "_law_asks"] (defScope Z2z) := fsc
theorem Z7f (F : Fu K "_law_plain_row" Z2z f fd) (T : Txt P w K mg) : FnG P w K mg base (L2.CX P w) 1 f fd ["_law_opens", "_law_asks"] (spM K (mk0 2) none (Lp Z1g)) := by
  refine okP F sc__law_plain_row rfl (fun _ A _ s H E hr hG te tk po ds hl => ?_)
  match ds, hl with
  | [y0, y1], _ => exact AB.eq (Zcx (own := [2, 3]) () (Zg (Z1 (Zg (Z1 (Zg (Z1 Z4 Z2)) Z2)) (Z1 (Zg (Z1 (Zg (Z1 Z4 Z2)) (Z1 (Zg (Z1 Z4 Z2)) Z2))) Z2))) wu (fun y2 => (Z37 rfl (fun y3 y4 => (Z8 (Z6 2 (Z8 (Z6 3 (Z1u (Z4h 4 () (ANn.an (Z7a (Z3g Z4 (Zg (Z1 (Zg (Z1 Z4 Z2)) (Z1 (Zg (Z1 Z4 Z2)) Z2))) (Z3g Z4 (Zg (Z1 (Zg (Z1 Z4 Z2)) (Z1 (Zg (Z1 Z4 Z2)) Z2))) Z9e)) rfl rfl (by decide) (by decide))) wu (fun y5 => (Z7v (tag := none) (d := y5) 4 rfl () Z4 (Zg (Z1 (Zg (Z1 Z4 Z2)) (Z1 (Zg (Z1 Z4 Z2)) (Z1 (Zg (Z1 Z4 Z2)) (Z1 (Zg (Z1 Z4 Z2)) Z2))))) wu (fun y6 => (Z4h 5 () (ANn.an (Z7a (Z3g Z4 (a_op Zd Ze (Z0 (Zg (Z1 (Zg (Z1 Z4 Z2)) (Z1 (Zg (Z1 Z4 (Z1 Z4 (Z1 (av 3 rfl) Z2)))) (Z1 (Zg (Z1 Z4 Z2)) Z2))))) (Z0 (av 3 rfl))) Z9e) rfl rfl (by decide) (by decide))) wu (fun y7 => (Z2x [.fz y0, .fz y1, .fz y3, .fz y4, .ow none y6 [], .ow none y7 [], .un] rfl (Z7v (tag := none) (d := y7) 5 rfl () Z4 (a_op Zd Ze (Z0 (Zg (Z1 (Zg (Z1 Z4 (Z1 Z4 (Z1 (av 2 rfl) Z2)))) (Z1 (Zg (Z1 Z4 Z2)) (Z1 (Zg (Z1 Z4 Z2)) Z2))))) (Z0 (av 3 rfl))) wu (fun y8 => (Z7v (tag := none) (d := y8) 5 rfl () Z4 (a_op Zd Ze (Z0 (Zg (Z1 (Zg (Z1 Z4 Z2)) (Z1 (Zg (Z1 Z4 Z2)) Z2)))) (Z0 (av 3 rfl))) wu (fun y9 => (Zf 6 () (Zg (Z1 (Zg (Z1 Z4 Z2)) (Z1 (Zg (Z1 Z4 Z2)) Z2))) wu (fun ya => (Z7v (tag := none) (d := y9) 5 rfl () Z4 (a_op Zd Ze (Z0 (Zg (Z1 (Zg (Z1 Z4 Z2)) (Z1 (Zg (Z1 Z4 (Z1 Z4 (Z1 (av 6 rfl) Z2)))) (Z1 (Zg (Z1 Z4 Z2)) Z2))))) (Z0 (av 6 rfl))) wu (fun yb => (Za () () (a_op Zd Ze (Z0 (Z1v (al 4 rfl) (av 0 rfl) (u1 hr))) (Z0 (Z1v (al 5 rfl) (av 1 rfl) (u1 hr)))) wu wu rfl)) (u1 hr))) sc__law_plain_row.nd lo)) (u1 hr))) (u1 hr)))) sc__law_plain_row.nd lo)) (u1 hr))) sc__law_plain_row.nd lo)) sc__law_plain_row.nd lo)) sc__law_plain_row.nd lo)))))) rfl
def Zu : List D -> R Unit D
  | [y0] => R.items y0 fun y1 => R.few y1 fun y2 => R.lst (R.fmapS (fun y3 _ => R.bind (R.lft (eqG y3 (.str "mark")) fun y4 => R.asB y4 fun y5 => if y5 then R.few [(.str "mark"), (.str "gone")] fun y6 => R.ok (.tup y6) else R.few [y3] fun y7 => R.ok (.tup y7)) fun y8 => R.ok (some y8, ())) y2 ()) fun y9 _ => R.lft (Z6t [y9]) fun ya => R.ok ya
  | _ => .no
theorem Z73 : ∀ ds, Zu ds ≠ .no -> ds.length = 1 := l1
theorem sc__law_plain_steps : FnScope ["_law_pulls_here", "_law_word"] ["_law_pulls_here"] (defScope Z1k) := fsc
theorem Z6l (F : Fu K "_law_plain_steps" Z1k f fd) (T : Txt P w K mg) : FnG P w K mg base (L2.CX P w) 1 f fd ["_law_pulls_here"] (spM K (mk0 1) none (Lp Zu)) := by
  refine okP F sc__law_plain_steps rfl (fun _ A _ s H E hr hG te tk po ds hl => ?_)
  match ds, hl with
  | [y0], _ => exact AB.eq (Za () () (Z38 Z3m Z68 boot_tuple T.z_tuple (by rfl) (Z3 (Z0 (Zx (a_lc [("_law_word", 1)] (Zl (av 0 rfl)) (fun _ _ y1 => (Z6 1 (Zbd () (fun _ => (a_if (Z9 (Zp hr.units) Z1r (Z0 (av 1 rfl)) (Z0 Z4) (nomark _)) (Zg (Z1 Z4 (Z1 Z4 Z2))) (Zg (Z1 (av 1 rfl) Z2)))) (.k (.d .nil)) rfl) sc__law_plain_steps.nd lo)) rfl sc__law_plain_steps.nd (blkOk_by (N := ["_law_pulls_here", "_law_word"]) (sc := defScope Z1k) (by decide +kernel)) (Z1d rfl Z3e)))) Z7)) wu wu rfl) rfl
def Z10 : List D -> R Unit D
  | [y0, y1, y2] => R.call (Z1g [y0, y1]) () fun y3 => R.ky (.str "hands") fun y4 => R.ky (.str "works") fun y5 => R.call (Zu [y2]) () fun y6 => R.ky (.str "puller") fun y7 => if ([(y4, y3), (y5, (.fdc [])), (y7, y6)] : List (Key × D)).length ≤ 15 then R.ok (.fdc (Z4v [] [(y4, y3), (y5, (.fdc [])), (y7, y6)])) else R.no
  | _ => .no
theorem Z7n : ∀ ds, Z10 ds ≠ .no -> ds.length = 3 := l3
theorem Z6u : FnScope ["_law_opens", "_law_asks", "_law_pulls_here"] ["_law_opens", "_law_asks", "_law_pulls_here"] (defScope Z2q) := fsc
theorem Z6y (F : Fu K "_law_plain_plan" Z2q f fd) (T : Txt P w K mg) (d__law_plain_row : Dfn P w K mg base 1 "_law_plain_row" (mk0 2) none (Lp Z1g)) (d__law_plain_steps : Dfn P w K mg base 1 "_law_plain_steps" (mk0 1) none (Lp Zu)) : FnG P w K mg base (L2.CX P w) 2 f fd ["_law_opens", "_law_asks", "_law_pulls_here"] (spM K (mk0 3) none (Lp Z10)) := by
  refine okP F Z6u rfl (fun _ A _ s H E hr hG te tk po ds hl => ?_)
  match ds, hl with
  | [y0, y1, y2], _ => exact AB.eq (Za () () (ANn.lock (Z7a (Z3g Z4 (Zw d__law_plain_row Z87 (Z1 (av 0 rfl) (Z1 (av 1 rfl) Z2)) (hm hr) hG tk (by rfl)) (Z3g Z4 (ANn.lock Zkc) (Z3g Z4 (Zw d__law_plain_steps Z73 (Z1 (av 2 rfl) Z2) (hm hr) hG tk (by rfl)) Z9e))) rfl rfl (by decide) (by decide))) wu wu rfl) rfl
def Z2v : List D -> R Unit D
  | [y0, y1, y2] => R.asI (.int 1) fun y3 => R.lft (subG (.int (-y3)) y0) fun y4 => R.lft (Z9m [y0, y4]) fun y5 => R.few [] fun y6 => R.lft (lenG [y2]) fun y7 => R.rng1 y7 fun y8 => R.after (R.for' y8 ((y5, (.lst y6)) : D × D) fun y9 ya => R.bind (R.lft (powG (.int 10) (.int 18)) fun yb => R.lft (geG y5 yb) fun yc => R.asB yc fun yd => if yd then R.lft (gtG ya.1 (.int 0)) fun ye => R.asB ye fun yf => R.ok yf else R.ok false) fun yg => if yg then R.asL ya.2 fun yh => R.lft (ixG y2 y9) fun yi => R.lft (modG ya.1 yi) fun yj => R.push yh yj fun yk => R.lft (ixG y2 y9) fun yl => R.lft (divG ya.1 yl) fun ym => R.ok (Step.nx ((ym, yk) : D × D)) else R.lft (modG y5 (.int 2147483629)) fun yn => R.lft (mulG (.int 7919) y1) fun yo => R.lft (addA yn yo) fun yp => R.lft (addA yp (.int 1)) fun yq => R.lft (powG yq (.int 3)) fun yr => R.lft (modG yr (.int 2147483647)) fun ys => R.lft (addA y9 (.int 1)) fun yt => R.lft (mulG (.int 104729) yt) fun yu => R.lft (addA ys yu) fun yv => R.lft (addA y9 (.int 3)) fun yw => R.lft (mulG yv yw) fun yx => R.lft (modG yx (.int 2147483629)) fun yy => R.lft (powG yy (.int 5)) fun yz => R.lft (modG yz (.int 2147483647)) fun y10 => R.lft (mulG y10 (.int 48271)) fun y11 => R.lft (modG y11 (.int 2147483629)) fun y12 => R.asL ya.2 fun y13 => R.lft (divG y12 (.int 16)) fun y14 => R.lft (ixG y2 y9) fun y15 => R.lft (modG y14 y15) fun y16 => R.push y13 y16 fun y17 => R.ok (Step.nx ((ya.1, y17) : D × D))) (fun y18 => R.ok y18.2) fun y19 y1a => R.ok y19
  | _ => .no
theorem Z9p : ∀ ds, Z2v ds ≠ .no -> ds.length = 3 := l3
theorem sc__law_numbers : FnScope ["_law_cell", "_law_salt", "_law_sizes", "_law_whole", "_law_left", "_law_result", "_law_k", "_law_one"] ["_law_cell", "_law_salt", "_law_sizes"] (defScope Z3r) := fsc
theorem Z8r (F : Fu K "_law_numbers" Z3r f fd) (T : Txt P w K mg) : FnG P w K mg base (L2.CX P w) 1 f fd ["_law_cell", "_law_salt", "_law_sizes"] (spM K (mk0 3) none (Lp Z2v)) := by
  refine okP F sc__law_numbers rfl (fun _ A _ s H E hr hG te tk po ds hl => ?_)
  match ds, hl with
  | [y0, y1, y2], _ => exact AB.eq (Zf 3 () (Zh (call_max2 rfl) Z7s boot_max T.z_max (by rfl) (Z3 (Z0 (av 0 rfl)) (Z3 (Z0 (a_op op_sub Zl1 (Z0 (Zqt (Z0 Z5))) (Z0 (av 0 rfl)))) Z7))) wu (fun y3 => (Zf 4 () (av 3 rfl) wu (fun y4 => (Z4h 5 () (Z1e Z2) wu (fun y5 => (Z3y (S := D × D) (own := [6]) (fun (y6 : D × D) => [.fz y0, .fz y1, .fz y2, .fz y3, .fz y6.1, .ow none y6.2 [], .un, .un]) ((y4, y5) : D × D) (fun y7 => ()) () (Ziq T.z_range (by rfl) (Z0 (Zh call_len Z3b PySem.boot_len T.z_len (by rfl) (Z3 (Z0 (av 2 rfl)) Z7)))) wu (.k (.k (.k (.k (.k (.k (.d (.d .nil)))))))) (fun y7 => wu) (fun y8 y9 => (Z6 6 (Z2x [.fz y0, .fz y1, .fz y2, .fz y3, .fz y8.1, .ow none y8.2 [], .fz y9, .un] rfl (Z4s () (AW.at (Z3f (Z9 op_ge Zp5 (Z0 (av 3 rfl)) (Z0 (a_op op_pow Zh9 (Z0 Z5) (Z0 Z5))) (nomark _)) (Z2b (Z9 op_gt Zdd (Z0 (av 4 rfl)) (Z0 Z5) (nomark _))))) wu (Z4t (tag := none) (d := y8.2) 5 rfl () (a_op op_mod Z7y (Z0 (av 4 rfl)) (Z0 (a_ix (Z0 (av 2 rfl)) (Z0 (av 6 rfl))))) wu (fun ya => (Zf 4 () (a_op op_fdiv Zl3 (Z0 (av 4 rfl)) (Z0 (a_ix (Z0 (av 2 rfl)) (Z0 (av 6 rfl))))) wu (fun yb => (Zr ((yb, ya) : D × D) (.k (.k (.k (.k (.k (.k (.d (.d .nil)))))))) rfl)) sc__law_numbers.nd lo))) (Zf 7 () (a_op op_mod Z7y (Z0 (a_op op_pow Zh9 (Z0 (a_op Zd Ze (Z0 (a_op Zd Ze (Z0 (a_op op_mod Z7y (Z0 (av 3 rfl)) (Z0 Z5))) (Z0 (a_op op_mul Zc7 (Z0 Z5) (Z0 (av 1 rfl)))))) (Z0 Z5))) (Z0 Z5))) (Z0 Z5)) wu (fun yc => (Zf 7 () (a_op op_mod Z7y (Z0 (a_op op_mul Zc7 (Z0 (a_op Zd Ze (Z0 (av 7 rfl)) (Z0 (a_op op_mul Zc7 (Z0 Z5) (Z0 (a_op Zd Ze (Z0 (av 6 rfl)) (Z0 Z5))))))) (Z0 (a_op Zd Ze (Z0 (av 6 rfl)) (Z0 Z5))))) (Z0 Z5)) wu (fun yd => (Zf 7 () (a_op op_mod Z7y (Z0 (a_op op_mul Zc7 (Z0 (a_op op_mod Z7y (Z0 (a_op op_pow Zh9 (Z0 (av 7 rfl)) (Z0 Z5))) (Z0 Z5))) (Z0 Z5))) (Z0 Z5)) wu (fun ye => (Z4t (tag := none) (d := y8.2) 5 rfl () (a_op op_mod Z7y (Z0 (a_op op_fdiv Zl3 (Z0 (av 7 rfl)) (Z0 Z5))) (Z0 (a_ix (Z0 (av 2 rfl)) (Z0 (av 6 rfl))))) wu (fun yf => (Zr ((y8.1, yf) : D × D) (.k (.k (.k (.k (.k (.k (.d (.d .nil)))))))) rfl)))) sc__law_numbers.nd lo)) sc__law_numbers.nd lo)) sc__law_numbers.nd lo))) sc__law_numbers.nd lo)) (fun yg => (Z60 5 rfl (Za () () (av 5 rfl) wu wu rfl))) rfl po rfl rfl)) sc__law_numbers.nd lo)) sc__law_numbers.nd lo)) sc__law_numbers.nd lo) rfl
def Z2i : List D -> R Unit D
  | [y0, y1, y2] => R.few [(.int 420)] fun y3 => R.lft (repG (.lst y3) y2) fun y4 => R.call (Z2v [y0, y1, y4]) () fun y5 => R.few [y5, (.int 0)] fun y6 => R.ok (.lst y6)
  | _ => .no
theorem Z8z : ∀ ds, Z2i ds ≠ .no -> ds.length = 3 := l3
theorem Zbp : FnScope ["_law_cell", "_law_salt", "_law_many"] ["_law_cell", "_law_salt", "_law_many"] (defScope Z57) := fsc
theorem Zbx (F : Fu K "_law_pool" Z57 f fd) (T : Txt P w K mg) (d__law_numbers : Dfn P w K mg base 1 "_law_numbers" (mk0 3) none (Lp Z2v)) : FnG P w K mg base (L2.CX P w) 2 f fd ["_law_cell", "_law_salt", "_law_many"] (spM K (mk0 3) (some []) (Lp Z2i)) := by
  refine okP F Zbp rfl (fun _ A _ s H E hr hG te tk po ds hl => ?_)
  match ds, hl with
  | [y0, y1, y2], _ => exact AB.eq (Znq () () (Z1e (Z1 (Zw d__law_numbers Z9p (Z1 (av 0 rfl) (Z1 (av 1 rfl) (Z1 (Zx (Ze6 (Z1e (Z1 Z5 Z2)) (Z0 (av 2 rfl)))) Z2))) (hm hr) hG tk (by rfl)) (Z1 Z5 Z2))) wu wu rfl) rfl
def Zq : List D -> R Unit (D × D)
  | [y0] => R.few [] fun y1 => R.few [(.str "out"), (.str "mark"), (.str "wait"), (.str "empty"), (.str "down"), (.str "let")] fun y2 => R.items (.lst y2) fun y3 => R.after (R.for' y3 ((y0, (.lst y1)) : D × D) fun y4 y5 => R.join (fun (y6 : D × D) => R.ok (Step.nx ((y6.1, y6.2) : D × D))) fun y7 => R.call1e (Zo [y5.1, (.int 6)]) () fun y8 y9 => R.lft (eqG y4 (.str "empty")) fun ya => R.lft (Z4y [ya]) fun yb => R.lft (mulG (.int 2) yb) fun yc => R.lft (gtG y8 yc) fun yd => R.asB yd fun ye => if ye then R.bind2 (R.call1e (Zo [y9, (.int 3)]) () fun yf yg => R.lft (gtG yf (.int 0)) fun yh => R.asB yh fun yi => if yi then R.lft (lenG [y5.2]) fun yj => R.ok (yj, yg) else R.lft (lenG [y5.2]) fun yk => R.lft (addA yk (.int 1)) fun yl => R.call1e (Zo [yg, yl]) () fun ym yn => R.ok (ym, yn)) fun yo yp => R.asI yo fun yq => R.lft (slG y5.2 none (some yq)) fun yr => R.few [y4] fun ys => R.lft (addA yr (.lst ys)) fun yt => R.asI yo fun yu => R.lft (slG y5.2 (some yu) none) fun yv => R.lft (addA yt yv) fun yw => y7 ((yp, yw) : D × D) else y7 ((y9, y5.2) : D × D)) (fun yx => R.call1e (Zo [yx.1, (.int 2)]) () fun yy yz => R.lft (eqG yy (.int 0)) fun y10 => R.asB y10 fun y11 => if y11 then R.ok (yx.2, yz) else R.lft (lenG [yx.2]) fun y12 => R.lft (addA y12 (.int 1)) fun y13 => R.call1e (Zo [yz, y13]) () fun y14 y15 => R.lft (lenG [yx.2]) fun y16 => R.lft (subG y16 y14) fun y17 => R.lft (addA y17 (.int 1)) fun y18 => R.call1e (Zo [y15, y18]) () fun y19 y1a => R.lft (addA y14 y19) fun y1b => R.few [(.str "unlock")] fun y1c => R.call1e (Zo [y1a, (.int 4)]) () fun y1d y1e => R.lft (gtG y1d (.int 0)) fun y1f => R.lft (Z4y [y1f]) fun y1g => R.lft (repG (.lst y1c) y1g) fun y1h => R.asI y14 fun y1i => R.lft (slG yx.2 none (some y1i)) fun y1j => R.few [(.str "lock")] fun y1k => R.lft (addA y1j (.lst y1k)) fun y1l => R.asI y14 fun y1m => R.asI y1b fun y1n => R.lft (slG yx.2 (some y1m) (some y1n)) fun y1o => R.lft (addA y1l y1o) fun y1p => R.lft (addA y1p y1h) fun y1q => R.asI y1b fun y1r => R.lft (slG yx.2 (some y1r) none) fun y1s => R.lft (addA y1q y1s) fun y1t => R.ok (y1t, y1e)) fun y1u y1v => R.ok (y1u, y1v.1)
  | _ => .no
theorem Z7m : ∀ o ds, Zq (o :: ds) ≠ .no -> ds.length = 0 := by
  intro o ds h
  unfold Zq at h
  split at h
  · rename_i e; cases e; rfl
  · exact absurd rfl h
theorem sc__law_pull_words : FnScope ["_law_pool_here", "_law_found", "_law_word", "_law_at", "_law_behind", "_law_end"] ["_law_pool_here"] (defScope Z2p) := fsc
theorem Z6x (F : Fu K "_law_pull_words" Z2p f fd) (T : Txt P w K mg) (d__law_draw : Dfn P w K mg base 1 "_law_draw" (some [] :: mk0 1) none (L1e Zo)) : FnG P w K mg base (L2.CX P w) 2 f fd ["_law_pool_here"] (spM K (some [] :: mk0 0) none (L1e Zq)) := by
  refine okR0 (m := 5) F sc__law_pull_words rfl rfl (fun _ A _ s H E hr hG te tk po o ds hl => ?_)
  match ds, hl with
  | [], _ =>
    exact AB.eq (Zf 1 () (Zx (Z1e Z2)) wu (fun y0 => (Z3y (S := D × D) (own := [2]) (fun (y1 : D × D) => [.ow (some 0) y1.1 [], .fz y1.2, .un, .un, .un, .un]) ((o, y0) : D × D) (fun y2 => y2.1) () (Zl (Zx (Z1e (Z1 Z4 (Z1 Z4 (Z1 Z4 (Z1 Z4 (Z1 Z4 (Z1 Z4 Z2))))))))) wu (.k (.k (.d (.d (.d (.d .nil)))))) (fun y2 => (.k (.d (.d (.d (.d (.d .nil))))))) (fun y3 y4 => (Z6 2 (Zqq (tag := (some 0)) (fs := []) (w := y3.1) 0 rfl (S := D × D) (fun (y5 : D × D) => [.ow (some 0) y5.1 [], .fz y5.2, .fz y4, .un, .un, .un]) () (Ze5 op_gt Zdd (Z3n d__law_draw Z2m (Z1p (AE.lift Z5) (fun y6 => (AA.lift Z2))) rfl (hm hr) hG tk (by rfl)) (fun y7 => (AE.lift (a_op op_mul Zc7 (Z0 Z5) (Z0 (Z38 call_int1 Z6g boot_int T.z_int (by rfl) (Z3 (Z0 (Z2o (Zp hr.units) Z1r (Z0 (av 2 rfl)) (Z0 Z4) (nomark _))) Z7)))))) (nomark _)) (fun _ => wu) (fun y8 y9 => (Z7u (tag := (some 0)) (fs := []) (w := y8) 0 3 rfl () (Zru (Ze5 op_gt Zdd (Z3n d__law_draw Z2m (Z1p (AE.lift Z5) (fun ya => (AA.lift Z2))) rfl (hm hr) hG tk (by rfl)) (fun yb => (AE.lift Z5)) (nomark _)) (fun yc => (AE.lift (Zh call_len Z3b PySem.boot_len T.z_len (by rfl) (Z3 (Z0 (av 1 rfl)) Z7)))) (fun yc => (Z3n d__law_draw Z2m (Z1p (AE.lift (a_op Zd Ze (Z0 (Zh call_len Z3b PySem.boot_len T.z_len (by rfl) (Z3 (Z0 (av 1 rfl)) Z7))) (Z0 Z5))) (fun yd => (AA.lift Z2))) rfl (hm hr) hG tk (by rfl)))) (fun _ => wu) (fun ye yf => (Z2x [.ow (some 0) yf [], .fz y3.2, .fz y4, .fz ye, .un, .un] rfl (Zf 1 () (a_op Zd Ze (Z0 (a_op Zd Ze (Z0 (a_sl (Z0 (av 1 rfl)) Z4g (Z2n (Z0 (av 3 rfl))))) (Z0 (Zx (Z1e (Z1 (av 2 rfl) Z2)))))) (Z0 (a_sl (Z0 (av 1 rfl)) (Z2n (Z0 (av 3 rfl))) Z4g))) wu (fun yg => (Zr ((yf, yg) : D × D) (.k (.k (.k (.d (.d (.d .nil)))))) rfl)) sc__law_pull_words.nd lo))) sc__law_pull_words.nd lo)) (fun y8 y9 => (Zr ((y8, y3.2) : D × D) (.k (.k (.k (.d (.d (.d .nil)))))) rfl)) (fun yh => (Zr ((yh.1, yh.2) : D × D) (.k (.k (.d (.d (.d (.d .nil)))))) rfl))) sc__law_pull_words.nd lo)) (fun yi => (Znr (tag := (some 0)) (fs := []) (w := yi.1) 0 rfl () (Ze5 (Zp hr.units) Z1r (Z3n d__law_draw Z2m (Z1p (AE.lift Z5) (fun yj => (AA.lift Z2))) rfl (hm hr) hG tk (by rfl)) (fun yk => (AE.lift Z5)) (nomark _)) (fun _ => wu) (fun yl => (Za () yl (av 1 rfl) wu (.k (.d (.d (.d (.d (.d .nil)))))) rfl)) (fun yl => (Z7u (tag := (some 0)) (fs := []) (w := yl) 0 3 rfl () (Z3n d__law_draw Z2m (Z1p (AE.lift (a_op Zd Ze (Z0 (Zh call_len Z3b PySem.boot_len T.z_len (by rfl) (Z3 (Z0 (av 1 rfl)) Z7))) (Z0 Z5))) (fun ym => (AA.lift Z2))) rfl (hm hr) hG tk (by rfl)) (fun _ => wu) (fun yn yo => (Z7u (tag := (some 0)) (fs := []) (w := yo) 0 4 rfl () (Zrs Zd Ze (AE.lift (av 3 rfl)) (fun yp => (Z3n d__law_draw Z2m (Z1p (AE.lift (a_op Zd Ze (Z0 (a_op op_sub Zl1 (Z0 (Zh call_len Z3b PySem.boot_len T.z_len (by rfl) (Z3 (Z0 (av 1 rfl)) Z7))) (Z0 (av 3 rfl)))) (Z0 Z5))) (fun yq => (AA.lift Z2))) rfl (hm hr) hG tk (by rfl)))) (fun _ => wu) (fun yr ys => (Z7u (tag := (some 0)) (fs := []) (w := ys) 0 5 rfl () (Zqm (Z1e (Z1 Z4 Z2)) (Zkl call_int1 Z6g boot_int T.z_int (by rfl) (Z1p (Zqo op_gt Zdd (Z3n d__law_draw Z2m (Z1p (AE.lift Z5) (fun yt => (AA.lift Z2))) rfl (hm hr) hG tk (by rfl)) (fun yu => (AE.lift Z5)) (nomark _)) (fun yv => (AA.lift Z2))))) (fun _ => wu) (fun yw yx => (Z2x [.ow (some 0) yx [], .fz yi.2, .un, .fz yn, .fz yr, .fz yw] rfl (Za () yx (a_op Zd Ze (Z0 (a_op Zd Ze (Z0 (a_op Zd Ze (Z0 (a_op Zd Ze (Z0 (a_sl (Z0 (av 1 rfl)) Z4g (Z2n (Z0 (av 3 rfl))))) (Z0 (Zx (Z1e (Z1 Z4 Z2)))))) (Z0 (a_sl (Z0 (av 1 rfl)) (Z2n (Z0 (av 3 rfl))) (Z2n (Z0 (av 4 rfl))))))) (Z0 (av 5 rfl)))) (Z0 (a_sl (Z0 (av 1 rfl)) (Z2n (Z0 (av 4 rfl))) Z4g))) wu (.k (.d (.d (.d (.d (.d .nil)))))) rfl))) sc__law_pull_words.nd lo)) sc__law_pull_words.nd lo)) sc__law_pull_words.nd lo)))) rfl po rfl rfl)) sc__law_pull_words.nd lo) rfl
def Zv : List D -> R Unit D
  | [y0, y1, y2] => R.lft (dixG y0 (.str "puller")) fun y3 => R.lft (ixG y1 (.int 3)) fun y4 => R.asI y4 fun y5 => R.lft (slG y3 none (some y5)) fun y6 => R.lft (inA y2 y6) fun y7 => R.ok y7
  | _ => .no
theorem Z4a : ∀ ds, Zv ds ≠ .no -> ds.length = 3 := l3
theorem Zbs : FnScope ["_law_case_here", "_law_state", "_law_step"] ["_law_case_here", "_law_state", "_law_step"] (defScope Z5e) := fsc
theorem Zc5 (F : Fu K "_law_done" Z5e f fd) (T : Txt P w K mg) : FnG P w K mg base (L2.CX P w) 1 f fd ["_law_case_here", "_law_state", "_law_step"] (spM K (mk0 3) none (Lp Zv)) := by
  refine okP F Zbs rfl (fun _ A _ s H E hr hG te tk po ds hl => ?_)
  match ds, hl with
  | [y0, y1, y2], _ => exact AB.eq (Za () () (Z2o (Z6c (u65 hr)) Z6d (Z0 (av 2 rfl)) (Z0 (a_sl (Z0 (Z1v (Z0 (av 0 rfl)) Z4 (u1 hr))) Z4g (Z2n (Z0 (a_ix (Z0 (av 1 rfl)) (Z0 Z5)))))) (by rfl)) wu wu rfl) rfl
def Z13 : List D -> R Unit D
  | [y0, y1] => R.bind (R.lft (ixG y1 (.int 4)) fun y2 => R.asB y2 fun y3 => if y3 then R.ok true else R.few [(.str "let")] fun y4 => R.call (Zv [y0, y1, (.tup y4)]) () fun y5 => R.asB y5 fun y6 => R.ok (!y6)) fun y7 => if y7 then R.ok (.bl false) else R.lft (ixG y1 (.int 1)) fun y8 => R.items y8 fun y9 => R.few y9 fun ya => R.lst (R.fmapS (fun yb _ => R.lft (dixG y0 (.str "hands")) fun yc => R.lft (ixG yc yb) fun yd => R.lft (ixG yd (.int 3)) fun ye => R.asB ye fun yf => if yf then R.ok (some yb, ()) else R.ok (none, ())) ya ()) fun yg _ => R.few [] fun yh => R.lft (eqG yg (.lst yh)) fun yi => R.ok yi
  | _ => .no
theorem Z5u : ∀ ds, Z13 ds ≠ .no -> ds.length = 2 := l2
theorem sc__law_freed : FnScope ["_law_case_here", "_law_state", "_law_place"] ["_law_case_here", "_law_state"] (defScope Z3w) := fsc
theorem Zaj (F : Fu K "_law_freed" Z3w f fd) (T : Txt P w K mg) (d__law_done : Dfn P w K mg base 1 "_law_done" (mk0 3) none (Lp Zv)) : FnG P w K mg base (L2.CX P w) 2 f fd ["_law_case_here", "_law_state"] (spM K (mk0 2) none (Lp Z13)) := by
  refine okP F sc__law_freed rfl (fun _ A _ s H E hr hG te tk po ds hl => ?_)
  match ds, hl with
  | [y0, y1], _ => exact AB.eq (Z1q () (AW.at (Zba (Z26 (a_ix (Z0 (av 1 rfl)) (Z0 Z5))) (Z84 (Z79 (Z26 (Zw d__law_done Z4a (Z1 (av 0 rfl) (Z1 (av 1 rfl) (Z1 (Zg (Z1 Z4 Z2)) Z2))) (hm hr) hG tk (by rfl))))))) wu (Za () () a_bl wu wu rfl) (Za () () (Z2o (Zp hr.units) Z1r (Z0 (Zx (a_lc [("_law_place", 2)] (Zl (a_ix (Z0 (av 1 rfl)) (Z0 Z5))) (fun _ _ y2 => (Z6 2 (Z6h () (fun _ => (Z26 (a_ix (Z0 (a_ix (Z0 (Z1v (Z0 (av 0 rfl)) Z4 (u1 hr))) (Z0 (av 2 rfl)))) (Z0 Z5)))) (fun _ => (av 2 rfl)) (.k (.k (.d .nil))) rfl) sc__law_freed.nd lo)) rfl sc__law_freed.nd (blkOk_by (N := ["_law_case_here", "_law_state", "_law_place"]) (sc := defScope Z3w) (by decide +kernel)) (Z1d rfl Z3e)))) (Z0 (Zx (Z1e Z2))) (nomark _)) wu wu rfl)) rfl
def Z1n : List D -> R Unit D
  | [y0, y1, y2] => R.lft (ixG y2 (.int 0)) fun y3 => R.bind (R.bind (R.lft (ixG y3 (.int 0)) fun y4 => R.lft (eqG y4 (.str "look")) fun y5 => R.asB y5 fun y6 => if y6 then R.few [(.str "out")] fun y7 => R.call (Zv [y0, y1, (.tup y7)]) () fun y8 => R.asB y8 fun y9 => R.ok y9 else R.ok false) fun ya => if ya then R.ok true else R.bind (R.lft (ixG y3 (.int 0)) fun yb => R.lft (eqG yb (.str "try")) fun yc => R.asB yc fun yd => if yd then R.call (Z13 [y0, y1]) () fun ye => R.asB ye fun yf => R.ok yf else R.ok false) fun yg => R.ok yg) fun yh => if yh then R.ok .non else R.bind (R.lft (ixG y3 (.int 0)) fun yi => R.lft (eqG yi (.str "ask")) fun yj => R.asB yj fun yk => if yk then R.bind (R.asI (.int 1) fun yl => R.asI (.int 2) fun ym => R.lft (slG y3 (some yl) (some ym)) fun yn => R.lft (truD yn) fun yo => if yo then R.lft (ixG y3 (.int 1)) fun yp => R.ok yp else R.ok yn) fun yq => R.few [(.str "mark"), yq] fun yr => R.call (Zv [y0, y1, (.tup yr)]) () fun ys => R.ok ys else R.ok (.bl false)) fun yt => R.lft (Z4y [yt]) fun yu => R.lft (addA (.int 1) yu) fun yv => R.lft (ixG y2 yv) fun yw => R.ok yw
  | _ => .no
theorem Z82 : ∀ ds, Z1n ds ≠ .no -> ds.length = 3 := l3
theorem sc__law_later : FnScope ["_law_case_here", "_law_state", "_law_entry", "_law_item_here"] ["_law_case_here", "_law_state", "_law_entry"] (defScope Z4k) := fsc
theorem Zah (F : Fu K "_law_later" Z4k f fd) (T : Txt P w K mg) (d__law_done : Dfn P w K mg base 1 "_law_done" (mk0 3) none (Lp Zv)) (d__law_freed : Dfn P w K mg base 2 "_law_freed" (mk0 2) none (Lp Z13)) : FnG P w K mg base (L2.CX P w) 3 f fd ["_law_case_here", "_law_state", "_law_entry"] (spM K (mk0 3) none (Lp Z1n)) := by
  refine okP F sc__law_later rfl (fun _ A _ s H E hr hG te tk po ds hl => ?_)
  match ds, hl with
  | [y0, y1, y2], _ => exact AB.eq (Zf 3 () (a_ix (Z0 (av 2 rfl)) (Z0 Z5)) wu (fun y3 => (Z1q () (AW.at (Zba (AW.at (Z3f (Z9 (Zp hr.units) Z1r (Z0 (a_ix (Z0 (av 3 rfl)) (Z0 Z5))) (Z0 Z4) (nomark _)) (Z2b (Z26 (Zw d__law_done Z4a (Z1 (av 0 rfl) (Z1 (av 1 rfl) (Z1 (Zg (Z1 Z4 Z2)) Z2))) (hm hr) hG tk (by rfl)))))) (Z84 (AW.at (Z3f (Z9 (Zp hr.units) Z1r (Z0 (a_ix (Z0 (av 3 rfl)) (Z0 Z5))) (Z0 Z4) (nomark _)) (Z2b (Z26 (Zw d__law_freed Z5u (Z1 (av 0 rfl) (Z1 (av 1 rfl) Z2)) (hm hr) hG tk (by rfl))))))))) wu (Za () () Z5o wu wu rfl) (Za () () (a_ix (Z0 (av 2 rfl)) (Z0 (a_op Zd Ze (Z0 Z5) (Z0 (Z38 call_int1 Z6g boot_int T.z_int (by rfl) (Z3 (Z0 (Z8b (Z2o (Zp hr.units) Z1r (Z0 (a_ix (Z0 (av 3 rfl)) (Z0 Z5))) (Z0 Z4) (nomark _)) (Z4z (Zw d__law_done Z4a (Z1 (av 0 rfl) (Z1 (av 1 rfl) (Z1 (Zg (Z1 Z4 (Z1 (Zll (a_sl (Z0 (av 3 rfl)) (Z2n (Z0 Z5)) (Z2n (Z0 Z5))) (Z4z (a_ix (Z0 (av 3 rfl)) (Z0 Z5)))) Z2))) Z2))) (hm hr) hG tk (by rfl))))) Z7)))))) wu wu rfl))) sc__law_later.nd lo) rfl
def Zs : List D -> R Unit D
  | [y0, y1, y2, y3] => R.lft (Z8y [y2]) fun y4 => R.join (fun (y5 : D) => R.lft (Z6t [y5]) fun y6 => R.ok y6) fun y7 => R.bind (R.lft (ixG y3 (.int 0)) fun y8 => R.lft (eqG y8 (.str "start")) fun y9 => R.asB y9 fun ya => if ya then R.lft (ixG y3 (.int 1)) fun yb => R.few [(.str "bar"), yb] fun yc => R.call (Zv [y0, y1, (.tup yc)]) () fun yd => R.asB yd fun ye => R.ok (!ye) else R.ok false) fun yf => if yf then R.lft (dixG y0 (.str "names")) fun yg => R.asQ yg fun _ => R.lft (ixG y3 (.int 1)) fun yh => R.lft (idxG yg [yh]) fun yi => R.asL y4 fun yj => R.lft (ixG y4 yi) fun yk => R.lft (ixG yk (.int 1)) fun yl => R.few [(.bl true), yl] fun ym => R.setAt yj yi (.tup ym) fun yn => y7 yn else y7 y4
  | _ => .no
theorem Z6e : ∀ ds, Zs ds ≠ .no -> ds.length = 4 := by
  intro ds h
  unfold Zs at h
  split at h
  · rfl
  · exact absurd rfl h
theorem sc__law_started : FnScope ["_law_case_here", "_law_state", "_law_jobs", "_law_item_here", "_law_found", "_law_at"] ["_law_case_here", "_law_state", "_law_jobs", "_law_item_here"] (defScope Z3q) := fsc
theorem Z8q (F : Fu K "_law_started" Z3q f fd) (T : Txt P w K mg) (d__law_done : Dfn P w K mg base 1 "_law_done" (mk0 3) none (Lp Zv)) : FnG P w K mg base (L2.CX P w) 2 f fd ["_law_case_here", "_law_state", "_law_jobs", "_law_item_here"] (spM K (mk0 4) none (Lp Zs)) := by
  refine okP F sc__law_started rfl (fun _ A _ s H E hr hG te tk po ds hl => ?_)
  match ds, hl with
  | [y0, y1, y2, y3], _ => exact AB.eq (Z4h 4 () (Z7c call_list_of Z9b boot_list T.z_list (by rfl) (Z3 (Z0 (av 2 rfl)) Z7)) wu (fun y4 => (Zg7 (S := D) (fun (y5 : D) => [.fz y0, .fz y1, .fz y2, .fz y3, .ow none y5 [], .un]) () (AW.at (Z3f (Z9 (Zp hr.units) Z1r (Z0 (a_ix (Z0 (av 3 rfl)) (Z0 Z5))) (Z0 Z4) (nomark _)) (Z2b (Z79 (Z26 (Zw d__law_done Z4a (Z1 (av 0 rfl) (Z1 (av 1 rfl) (Z1 (Zg (Z1 Z4 (Z1 (a_ix (Z0 (av 3 rfl)) (Z0 Z5)) Z2))) Z2))) (hm hr) hG tk (by rfl))))))) wu (fun y6 => (Zf 5 () (Ze7 (u65 hr) (Z0 (Z1v (Z0 (av 0 rfl)) Z4 (u1 hr))) (Z3 (Z0 (a_ix (Z0 (av 3 rfl)) (Z0 Z5))) Z7)) wu (fun y7 => (Z7b (tag := none) (d := y4) 4 rfl () (Z0 (av 5 rfl)) (Zg (Z1 a_bl (Z1 (a_ix (Z0 (a_ix (al 4 rfl) (Z0 (av 5 rfl)))) (Z0 Z5)) Z2))) wu (fun y8 => (Zr y8 (.k (.k (.k (.k (.k (.d .nil)))))) rfl)))) sc__law_started.nd lo)) (fun y6 => (Zr y4 (.k (.k (.k (.k (.k (.d .nil)))))) rfl)) (fun y9 => (Za () () (Z38 Z3m Z68 boot_tuple T.z_tuple (by rfl) (Z3 (al 4 rfl) Z7)) wu wu rfl)))) sc__law_started.nd lo) rfl
def Z34 : List D -> R Unit D
  | [y0, y1, y2] => R.tup5 y1 fun y3 y4 y5 y6 y7 => R.lft (dixG y0 (.str "hands")) fun y8 => R.lft (ixG y8 y2) fun y9 => R.call (Z1n [y0, y1, y9]) () fun ya => R.lft (Z8y [y4]) fun yb => R.asL yb fun yc => R.rem yc y2 fun yd => R.join (fun (ye : D × D) => R.lft ((or2 Zfn Zeb) [ye.2]) fun yf => R.lft (Z6t [yf]) fun yg => R.lft (ixG y9 (.int 0)) fun yh => R.call (Zs [y0, y1, y5, yh]) () fun yi => R.few [y3, yg, yi, y6, ye.1] fun yj => R.ok (.tup yj)) fun yk => R.bind (R.lft (Z4u ya .non) fun yl => R.asB yl fun ym => if ym then R.lft (dixG y0 (.str "hands")) fun yn => R.lft (lenG [yn]) fun yo => R.lft (ltG ya yo) fun yp => R.asB yp fun yq => R.ok yq else R.ok false) fun yr => if yr then R.asL yd fun ys => R.push ys ya fun yt => yk ((y7, yt) : D × D) else R.bind (R.asB y7 fun yu => if yu then R.ok (.bl true) else R.bind (R.lft (Z4u ya .non) fun yv => R.asB yv fun yw => if yw then R.asI (.int 3) fun yx => R.lft (slG y9 (some yx) none) fun yy => R.lft (ixG y9 (.int 0)) fun yz => R.call (Z1b [yy, yz]) () fun y10 => R.lft (ixG y10 (.int 0)) fun y11 => R.ok y11 else R.ok (.bl false)) fun y12 => R.ok y12) fun y13 => yk ((y13, yd) : D × D)
  | _ => .no
theorem Zdk : ∀ ds, Z34 ds ≠ .no -> ds.length = 3 := l3
theorem sc__law_gone : FnScope ["_law_case_here", "_law_state", "_law_place", "_law_came", "_law_inside", "_law_jobs", "_law_done_here", "_law_leaked", "_law_entry", "_law_later_here", "_law_left"] ["_law_case_here", "_law_state", "_law_place"] (defScope Z5c) := fsc
theorem Zc3 (F : Fu K "_law_gone" Z5c f fd) (T : Txt P w K mg) (d__law_flags : Dfn P w K mg base 1 "_law_flags" (mk0 2) none (Lp Z1b)) (d__law_later : Dfn P w K mg base 3 "_law_later" (mk0 3) none (Lp Z1n)) (d__law_started : Dfn P w K mg base 2 "_law_started" (mk0 4) none (Lp Zs)) : FnG P w K mg base (L2.CX P w) 4 f fd ["_law_case_here", "_law_state", "_law_place"] (spM K (mk0 3) none (Lp Z34)) := by
  refine okP F sc__law_gone rfl (fun _ A _ s H E hr hG te tk po ds hl => ?_)
  match ds, hl with
  | [y0, y1, y2], _ => exact AB.eq (Zcx (own := [3, 4, 5, 6, 7]) () (av 1 rfl) wu (fun y3 => (Zbc rfl (fun y4 y5 y6 y7 y8 => (Z8 (Z6 3 (Z8 (Z6 4 (Z8 (Z6 5 (Z8 (Z6 6 (Z8 (Z6 7 (Z1u (Z2x [.fz y0, .fz y1, .fz y2, .fz y4, .fz y5, .fz y6, .fz y7, .fz y8, .un, .un, .un] rfl (Zf 8 () (a_ix (Z0 (Z1v (Z0 (av 0 rfl)) Z4 (u1 hr))) (Z0 (av 2 rfl))) wu (fun y9 => (Z9f (k1 := none) (k2 := some []) 9 10 () (Znh (Zw d__law_later Z82 (Z1 (av 0 rfl) (Z1 (av 1 rfl) (Z1 (av 8 rfl) Z2))) (hm hr) hG tk (by rfl)) (Zng (Z7c call_list_of Z9b boot_list T.z_list (by rfl) (Z3 (Z0 (av 4 rfl)) Z7)) Ze1)) wu (fun ya yb yc => (Zqp (tag := none) (d := yb) 10 rfl () (av 2 rfl) wu (fun yd => (Zg7 (S := D × D) (fun (ye : D × D) => [.fz y0, .fz y1, .fz y2, .fz y4, .fz y5, .fz y6, .fz y7, .fz ye.1, .fz y9, .fz ya, .ow none ye.2 []]) () (AW.at (Z3f (Z9 op_notN Z5f (Z0 (av 9 rfl)) (Z0 Z5o) (nomark _)) (Z2b (Z9 op_lt Zc8 (Z0 (av 9 rfl)) (Z0 (Zh call_len Z3b PySem.boot_len T.z_len (by rfl) (Z3 (Z0 (Z1v (Z0 (av 0 rfl)) Z4 (u1 hr))) Z7))) (nomark _))))) wu (fun yf => (Z4t (tag := none) (d := yd) 10 rfl () (av 9 rfl) wu (fun yg => (Zr ((y8, yg) : D × D) (.k (.k (.k (.k (.k (.k (.k (.k (.k (.k (.k .nil))))))))))) rfl)))) (fun yf => (Zf 7 () (a_or (av 7 rfl) (Z4z (Z8b (Z2o op_notN Z5f (Z0 (av 9 rfl)) (Z0 Z5o) (nomark _)) (Z4z (a_ix (Z0 (Zw d__law_flags Z5v (Z1 (a_sl (Z0 (av 8 rfl)) (Z2n (Z0 Z5)) Z4g) (Z1 (a_ix (Z0 (av 8 rfl)) (Z0 Z5)) Z2)) (hm hr) hG tk (by rfl))) (Z0 Z5)))))) wu (fun yh => (Zr ((yh, yd) : D × D) (.k (.k (.k (.k (.k (.k (.k (.k (.k (.k (.k .nil))))))))))) rfl)) sc__law_gone.nd lo)) (fun yi => (Za () () (Zg (Z1 (av 3 rfl) (Z1 (Z38 Z3m Z68 boot_tuple T.z_tuple (by rfl) (Z3 (Z0 (Zx (Zff (Zqd Zg2 Zdu) (Zqe Zii Zdx) boot_sorted T.z_sorted (by rfl) (Z3 (al 10 rfl) Z7)))) Z7)) (Z1 (Zw d__law_started Z6e (Z1 (av 0 rfl) (Z1 (av 1 rfl) (Z1 (av 5 rfl) (Z1 (a_ix (Z0 (av 8 rfl)) (Z0 Z5)) Z2)))) (hm hr) hG tk (by rfl)) (Z1 (av 6 rfl) (Z1 (av 7 rfl) Z2)))))) wu wu rfl)))))) rfl sc__law_gone.nd)) sc__law_gone.nd lo))) sc__law_gone.nd lo)) sc__law_gone.nd lo)) sc__law_gone.nd lo)) sc__law_gone.nd lo)) sc__law_gone.nd lo)))))) rfl
def Z3k : List D -> R Unit D
  | [y0, y1, y2] => R.tup5 y1 fun y3 y4 y5 y6 y7 => R.lft (dixG y0 (.str "names")) fun y8 => R.asQ y8 fun _ => R.lft (idxG y8 [y2]) fun y9 => R.lft (dixG y0 (.str "works")) fun ya => R.lft (ixG ya y9) fun yb => R.lft (ixG y5 y9) fun yc => R.lft (ixG yc (.int 1)) fun yd => R.lft (ixG yb yd) fun ye => R.call (Z1n [y0, y1, ye]) () fun yf => R.lft (Z8y [y5]) fun yg => R.asL yg fun yh => R.lft (ixG yg y9) fun yi => R.lft (ixG yi (.int 0)) fun yj => R.bind (R.lft (dixG y0 (.str "works")) fun yk => R.lft (ixG yk y9) fun yl => R.lft (lenG [yl]) fun ym => R.lft (eqG yf ym) fun yn => R.asB yn fun yo => if yo then R.ok .non else R.ok yf) fun yp => R.few [yj, yp] fun yq => R.setAt yh y9 (.tup yq) fun yr => R.lft (ixG ye (.int 0)) fun ys => R.call (Zs [y0, y1, yr, ys]) () fun yt => R.few [y3, y4, yt, y6, y7] fun yu => R.ok (.tup yu)
  | _ => .no
theorem Zfx : ∀ ds, Z3k ds ≠ .no -> ds.length = 3 := l3
theorem sc__law_ran : FnScope ["_law_case_here", "_law_state", "_law_name", "_law_came", "_law_inside", "_law_jobs", "_law_done_here", "_law_leaked", "_law_at", "_law_entry", "_law_later_here", "_law_some"] ["_law_case_here", "_law_state", "_law_name"] (defScope Z61) := fsc
theorem Zda (F : Fu K "_law_ran" Z61 f fd) (T : Txt P w K mg) (d__law_later : Dfn P w K mg base 3 "_law_later" (mk0 3) none (Lp Z1n)) (d__law_started : Dfn P w K mg base 2 "_law_started" (mk0 4) none (Lp Zs)) : FnG P w K mg base (L2.CX P w) 4 f fd ["_law_case_here", "_law_state", "_law_name"] (spM K (mk0 3) none (Lp Z3k)) := by
  refine okP F sc__law_ran rfl (fun _ A _ s H E hr hG te tk po ds hl => ?_)
  match ds, hl with
  | [y0, y1, y2], _ => exact AB.eq (Zcx (own := [3, 4, 5, 6, 7]) () (av 1 rfl) wu (fun y3 => (Zbc rfl (fun y4 y5 y6 y7 y8 => (Z8 (Z6 3 (Z8 (Z6 4 (Z8 (Z6 5 (Z8 (Z6 6 (Z8 (Z6 7 (Z1u (Z2x [.fz y0, .fz y1, .fz y2, .fz y4, .fz y5, .fz y6, .fz y7, .fz y8, .un, .un, .un, .un] rfl (Zf 8 () (Ze7 (u65 hr) (Z0 (Z1v (Z0 (av 0 rfl)) Z4 (u1 hr))) (Z3 (Z0 (av 2 rfl)) Z7)) wu (fun y9 => (Zf 9 () (a_ix (Z0 (a_ix (Z0 (Z1v (Z0 (av 0 rfl)) Z4 (u1 hr))) (Z0 (av 8 rfl)))) (Z0 (a_ix (Z0 (a_ix (Z0 (av 5 rfl)) (Z0 (av 8 rfl)))) (Z0 Z5)))) wu (fun ya => (Z9f (k1 := none) (k2 := some []) 10 11 () (Znh (Zw d__law_later Z82 (Z1 (av 0 rfl) (Z1 (av 1 rfl) (Z1 (av 9 rfl) Z2))) (hm hr) hG tk (by rfl)) (Zng (Z7c call_list_of Z9b boot_list T.z_list (by rfl) (Z3 (Z0 (av 5 rfl)) Z7)) Ze1)) wu (fun yb yc yd => (Z2x [.fz y0, .fz y1, .fz y2, .fz y4, .fz y5, .fz y6, .fz y7, .fz y8, .fz y9, .fz ya, .fz yb, .ow none yc []] rfl (Z7b (tag := none) (d := yc) 11 rfl () (Z0 (av 8 rfl)) (Zg (Z1 (a_ix (Z0 (a_ix (al 11 rfl) (Z0 (av 8 rfl)))) (Z0 Z5)) (Z1 (a_if (Z9 (Zp hr.units) Z1r (Z0 (av 10 rfl)) (Z0 (Zh call_len Z3b PySem.boot_len T.z_len (by rfl) (Z3 (Z0 (a_ix (Z0 (Z1v (Z0 (av 0 rfl)) Z4 (u1 hr))) (Z0 (av 8 rfl)))) Z7))) (nomark _)) Z5o (av 10 rfl)) Z2))) wu (fun ye => (Z60 11 rfl (Za () () (Zg (Z1 (av 3 rfl) (Z1 (av 4 rfl) (Z1 (Zw d__law_started Z6e (Z1 (av 0 rfl) (Z1 (av 1 rfl) (Z1 (av 11 rfl) (Z1 (a_ix (Z0 (av 9 rfl)) (Z0 Z5)) Z2)))) (hm hr) hG tk (by rfl)) (Z1 (av 6 rfl) (Z1 (av 7 rfl) Z2)))))) wu wu rfl)))))) rfl sc__law_ran.nd)) sc__law_ran.nd lo)) sc__law_ran.nd lo))) sc__law_ran.nd lo)) sc__law_ran.nd lo)) sc__law_ran.nd lo)) sc__law_ran.nd lo)) sc__law_ran.nd lo)))))) rfl
def Zy : List D -> R Unit D
  | [y0, y1, y2] => R.tup5 y1 fun y3 y4 y5 y6 y7 => R.lft (ixG y2 (.int 0)) fun y8 => R.lft (eqG y8 (.str "come")) fun y9 => R.asB y9 fun ya => if ya then R.lft (addA y3 (.int 1)) fun yb => R.few [(.int 0)] fun yc => R.lft (addA (.tup yc) y4) fun yd => R.few [yb, yd, y5, y6, y7] fun ye => R.ok (.tup ye) else R.lft (ixG y2 (.int 0)) fun yf => R.lft (eqG yf (.str "go")) fun yg => R.asB yg fun yh => if yh then R.lft (ixG y2 (.int 1)) fun yi => R.call (Z34 [y0, y1, yi]) () fun yj => R.ok yj else R.lft (ixG y2 (.int 0)) fun yk => R.lft (eqG yk (.str "run")) fun yl => R.asB yl fun ym => if ym then R.lft (ixG y2 (.int 1)) fun yn => R.call (Z3k [y0, y1, yn]) () fun yo => R.ok yo else R.lft (Z8y [y5]) fun yp => R.lft (ixG y2 (.int 0)) fun yq => R.lft (eqG yq (.str "begin")) fun yr => R.asB yr fun ys => if ys then R.asL yp fun yt => R.few [(.bl false), (.int 0)] fun yu => R.lft (dixG y0 (.str "names")) fun yv => R.asQ yv fun _ => R.lft (ixG y2 (.int 1)) fun yw => R.lft (idxG yv [yw]) fun yx => R.setAt yt yx (.tup yu) fun yy => R.lft (Z6t [yy]) fun yz => R.few [y3, y4, yz, y6, y7] fun y10 => R.ok (.tup y10) else R.lft (dixG y0 (.str "puller")) fun y11 => R.lft (ixG y11 y6) fun y12 => R.join (fun (y13 : D) => R.lft (Z6t [y13]) fun y14 => R.lft (addA y6 (.int 1)) fun y15 => R.few [y3, y4, y14, y15, y7] fun y16 => R.ok (.tup y16)) fun y17 => R.lft (ixG y12 (.int 0)) fun y18 => R.lft (eqG y18 (.str "forget")) fun y19 => R.asB y19 fun y1a => if y1a then R.lft (dixG y0 (.str "names")) fun y1b => R.asQ y1b fun _ => R.lft (ixG y12 (.int 1)) fun y1c => R.lft (idxG y1b [y1c]) fun y1d => R.asL yp fun y1e => R.lft (ixG yp y1d) fun y1f => R.lft (ixG y1f (.int 1)) fun y1g => R.few [(.bl false), y1g] fun y1h => R.setAt y1e y1d (.tup y1h) fun y1i => y17 y1i else y17 yp
  | _ => .no
theorem Zcn : ∀ ds, Zy ds ≠ .no -> ds.length = 3 := l3
theorem sc__law_after : FnScope ["_law_case_here", "_law_state", "_law_move", "_law_came", "_law_inside", "_law_jobs", "_law_done_here", "_law_leaked", "_law_some", "_law_step", "_law_at"] ["_law_case_here", "_law_state", "_law_move"] (defScope Z4o) := fsc
theorem Zan (F : Fu K "_law_after" Z4o f fd) (T : Txt P w K mg) (d__law_gone : Dfn P w K mg base 4 "_law_gone" (mk0 3) none (Lp Z34)) (d__law_ran : Dfn P w K mg base 4 "_law_ran" (mk0 3) none (Lp Z3k)) : FnG P w K mg base (L2.CX P w) 5 f fd ["_law_case_here", "_law_state", "_law_move"] (spM K (mk0 3) none (Lp Zy)) := by
  refine okP F sc__law_after rfl (fun _ A _ s H E hr hG te tk po ds hl => ?_)
  match ds, hl with
  | [y0, y1, y2], _ => exact AB.eq (Zcx (own := [3, 4, 5, 6, 7]) () (av 1 rfl) wu (fun y3 => (Zbc rfl (fun y4 y5 y6 y7 y8 => (Z8 (Z6 3 (Z8 (Z6 4 (Z8 (Z6 5 (Z8 (Z6 6 (Z8 (Z6 7 (Z1u (Z2x [.fz y0, .fz y1, .fz y2, .fz y4, .fz y5, .fz y6, .fz y7, .fz y8, .un, .un, .un] rfl (Z1q () (Z9 (Zp hr.units) Z1r (Z0 (a_ix (Z0 (av 2 rfl)) (Z0 Z5))) (Z0 Z4) (nomark _)) wu (Za () () (Zg (Z1 (a_op Zd Ze (Z0 (av 3 rfl)) (Z0 Z5)) (Z1 (a_op Zd Ze (Z0 (Zg (Z1 Z5 Z2))) (Z0 (av 4 rfl))) (Z1 (av 5 rfl) (Z1 (av 6 rfl) (Z1 (av 7 rfl) Z2)))))) wu wu rfl) (Z1q () (Z9 (Zp hr.units) Z1r (Z0 (a_ix (Z0 (av 2 rfl)) (Z0 Z5))) (Z0 Z4) (nomark _)) wu (Za () () (Zw d__law_gone Zdk (Z1 (av 0 rfl) (Z1 (av 1 rfl) (Z1 (a_ix (Z0 (av 2 rfl)) (Z0 Z5)) Z2))) (hm hr) hG tk (by rfl)) wu wu rfl) (Z1q () (Z9 (Zp hr.units) Z1r (Z0 (a_ix (Z0 (av 2 rfl)) (Z0 Z5))) (Z0 Z4) (nomark _)) wu (Za () () (Zw d__law_ran Zfx (Z1 (av 0 rfl) (Z1 (av 1 rfl) (Z1 (a_ix (Z0 (av 2 rfl)) (Z0 Z5)) Z2))) (hm hr) hG tk (by rfl)) wu wu rfl) (Z4h 8 () (Z7c call_list_of Z9b boot_list T.z_list (by rfl) (Z3 (Z0 (av 5 rfl)) Z7)) wu (fun y9 => (Z1q () (Z9 (Zp hr.units) Z1r (Z0 (a_ix (Z0 (av 2 rfl)) (Z0 Z5))) (Z0 Z4) (nomark _)) wu (Z7b (tag := none) (d := y9) 8 rfl () (Z0 (Ze7 (u65 hr) (Z0 (Z1v (Z0 (av 0 rfl)) Z4 (u1 hr))) (Z3 (Z0 (a_ix (Z0 (av 2 rfl)) (Z0 Z5))) Z7))) (Zg (Z1 a_bl (Z1 Z5 Z2))) wu (fun ya => (Za () () (Zg (Z1 (av 3 rfl) (Z1 (av 4 rfl) (Z1 (Z38 Z3m Z68 boot_tuple T.z_tuple (by rfl) (Z3 (al 8 rfl) Z7)) (Z1 (av 6 rfl) (Z1 (av 7 rfl) Z2)))))) wu wu rfl))) (Zf 9 () (a_ix (Z0 (Z1v (Z0 (av 0 rfl)) Z4 (u1 hr))) (Z0 (av 6 rfl))) wu (fun yb => (Zg7 (S := D) (fun (yc : D) => [.fz y0, .fz y1, .fz y2, .fz y4, .fz y5, .fz y6, .fz y7, .fz y8, .ow none yc [], .fz yb, .un]) () (Z9 (Zp hr.units) Z1r (Z0 (a_ix (Z0 (av 9 rfl)) (Z0 Z5))) (Z0 Z4) (nomark _)) wu (fun yd => (Zf 10 () (Ze7 (u65 hr) (Z0 (Z1v (Z0 (av 0 rfl)) Z4 (u1 hr))) (Z3 (Z0 (a_ix (Z0 (av 9 rfl)) (Z0 Z5))) Z7)) wu (fun ye => (Z7b (tag := none) (d := y9) 8 rfl () (Z0 (av 10 rfl)) (Zg (Z1 a_bl (Z1 (a_ix (Z0 (a_ix (al 8 rfl) (Z0 (av 10 rfl)))) (Z0 Z5)) Z2))) wu (fun yf => (Zr yf (.k (.k (.k (.k (.k (.k (.k (.k (.k (.k (.d .nil))))))))))) rfl)))) sc__law_after.nd lo)) (fun yd => (Zr y9 (.k (.k (.k (.k (.k (.k (.k (.k (.k (.k (.d .nil))))))))))) rfl)) (fun yg => (Za () () (Zg (Z1 (av 3 rfl) (Z1 (av 4 rfl) (Z1 (Z38 Z3m Z68 boot_tuple T.z_tuple (by rfl) (Z3 (al 8 rfl) Z7)) (Z1 (a_op Zd Ze (Z0 (av 6 rfl)) (Z0 Z5)) (Z1 (av 7 rfl) Z2)))))) wu wu rfl)))) sc__law_after.nd lo))) sc__law_after.nd lo)))))) sc__law_after.nd lo)) sc__law_after.nd lo)) sc__law_after.nd lo)) sc__law_after.nd lo)) sc__law_after.nd lo)))))) rfl
def Z19 : List D -> R Unit D
  | [y0, y1, y2] => R.lft (ixG y2 (.int 0)) fun y3 => R.lft (eqG y3 (.str "go")) fun y4 => R.asB y4 fun y5 => if y5 then R.lft (dixG y0 (.str "hands")) fun y6 => R.lft (ixG y2 (.int 1)) fun y7 => R.lft (ixG y6 y7) fun y8 => R.lft (ixG y8 (.int 0)) fun y9 => R.ok y9 else R.lft (ixG y2 (.int 0)) fun ya => R.lft (eqG ya (.str "run")) fun yb => R.asB yb fun yc => if yc then R.lft (dixG y0 (.str "names")) fun yd => R.asQ yd fun _ => R.lft (ixG y2 (.int 1)) fun ye => R.lft (idxG yd [ye]) fun yf => R.lft (dixG y0 (.str "works")) fun yg => R.lft (ixG yg yf) fun yh => R.lft (ixG y1 (.int 2)) fun yi => R.lft (ixG yi yf) fun yj => R.lft (ixG yj (.int 1)) fun yk => R.lft (ixG yh yk) fun yl => R.lft (ixG yl (.int 0)) fun ym => R.ok ym else R.bind (R.lft (ixG y2 (.int 0)) fun yn => R.lft (eqG yn (.str "step")) fun yo => R.asB yo fun yp => if yp then R.lft (dixG y0 (.str "puller")) fun yq => R.lft (ixG y1 (.int 3)) fun yr => R.lft (ixG yq yr) fun ys => R.ok ys else R.few [(.str "none")] fun yt => R.ok (.tup yt)) fun yu => R.ok yu
  | _ => .no
theorem Zdj : ∀ ds, Z19 ds ≠ .no -> ds.length = 3 := l3
theorem sc__law_item : FnScope ["_law_case_here", "_law_state", "_law_move", "_law_at"] ["_law_case_here", "_law_state", "_law_move"] (defScope Z5b) := fsc
theorem Zc1 (F : Fu K "_law_item" Z5b f fd) (T : Txt P w K mg) : FnG P w K mg base (L2.CX P w) 1 f fd ["_law_case_here", "_law_state", "_law_move"] (spM K (mk0 3) none (Lp Z19)) := by
  refine okP F sc__law_item rfl (fun _ A _ s H E hr hG te tk po ds hl => ?_)
  match ds, hl with
  | [y0, y1, y2], _ => exact AB.eq (Z1q () (Z9 (Zp hr.units) Z1r (Z0 (a_ix (Z0 (av 2 rfl)) (Z0 Z5))) (Z0 Z4) (nomark _)) wu (Za () () (a_ix (Z0 (a_ix (Z0 (Z1v (Z0 (av 0 rfl)) Z4 (u1 hr))) (Z0 (a_ix (Z0 (av 2 rfl)) (Z0 Z5))))) (Z0 Z5)) wu wu rfl) (Z1q () (Z9 (Zp hr.units) Z1r (Z0 (a_ix (Z0 (av 2 rfl)) (Z0 Z5))) (Z0 Z4) (nomark _)) wu (Zf 3 () (Ze7 (u65 hr) (Z0 (Z1v (Z0 (av 0 rfl)) Z4 (u1 hr))) (Z3 (Z0 (a_ix (Z0 (av 2 rfl)) (Z0 Z5))) Z7)) wu (fun y3 => (Za () () (a_ix (Z0 (a_ix (Z0 (a_ix (Z0 (Z1v (Z0 (av 0 rfl)) Z4 (u1 hr))) (Z0 (av 3 rfl)))) (Z0 (a_ix (Z0 (a_ix (Z0 (a_ix (Z0 (av 1 rfl)) (Z0 Z5))) (Z0 (av 3 rfl)))) (Z0 Z5))))) (Z0 Z5)) wu wu rfl)) sc__law_item.nd lo) (Za () () (a_if (Z9 (Zp hr.units) Z1r (Z0 (a_ix (Z0 (av 2 rfl)) (Z0 Z5))) (Z0 Z4) (nomark _)) (a_ix (Z0 (Z1v (Z0 (av 0 rfl)) Z4 (u1 hr))) (Z0 (a_ix (Z0 (av 1 rfl)) (Z0 Z5)))) (Zg (Z1 Z4 Z2))) wu wu rfl))) rfl
def Z14 : List D -> R Unit D
  | [y0, y1, y2] => R.call (Z19 [y0, y1, y2]) () fun y3 => R.lft (ixG y3 (.int 0)) fun y4 => R.lft (eqG y4 (.str "touch")) fun y5 => R.asB y5 fun y6 => if y6 then R.bind (R.few [(.str "down")] fun y7 => R.call (Zv [y0, y1, (.tup y7)]) () fun y8 => R.asB y8 fun y9 => if y9 then R.ok (.str "touched") else R.ok .non) fun ya => R.ok ya else R.few [(.str "hold"), (.str "enter"), (.str "leave"), (.str "ask"), (.str "use"), (.str "start")] fun yb => R.join (fun (yc : D) => R.bind (R.bind (R.lft (inA y4 yc) fun yd => R.asB yd fun ye => if ye then R.call (Z13 [y0, y1]) () fun yf => R.asB yf fun yg => R.ok yg else R.ok false) fun yh => if yh then R.ok (.str "used") else R.ok .non) fun yi => R.ok yi) fun yj => R.lft (ixG y2 (.int 0)) fun yk => R.lft (eqG yk (.str "step")) fun yl => R.asB yl fun ym => if ym then R.few [(.str "mark"), (.str "wait"), (.str "empty"), (.str "bar"), (.str "forget"), (.str "idle"), (.str "let")] fun yn => yj (.lst yn) else yj (.lst yb)
  | _ => .no
theorem Zcm : ∀ ds, Z14 ds ≠ .no -> ds.length = 3 := l3
theorem sc__law_fault : FnScope ["_law_case_here", "_law_state", "_law_move", "_law_word", "_law_users"] ["_law_case_here", "_law_state", "_law_move"] (defScope Z4n) := fsc
theorem Zam (F : Fu K "_law_fault" Z4n f fd) (T : Txt P w K mg) (d__law_done : Dfn P w K mg base 1 "_law_done" (mk0 3) none (Lp Zv)) (d__law_freed : Dfn P w K mg base 2 "_law_freed" (mk0 2) none (Lp Z13)) (d__law_item : Dfn P w K mg base 1 "_law_item" (mk0 3) none (Lp Z19)) : FnG P w K mg base (L2.CX P w) 3 f fd ["_law_case_here", "_law_state", "_law_move"] (spM K (mk0 3) none (Lp Z14)) := by
  refine okP F sc__law_fault rfl (fun _ A _ s H E hr hG te tk po ds hl => ?_)
  match ds, hl with
  | [y0, y1, y2], _ => exact AB.eq (Zf 3 () (a_ix (Z0 (Zw d__law_item Zdj (Z1 (av 0 rfl) (Z1 (av 1 rfl) (Z1 (av 2 rfl) Z2))) (hm hr) hG tk (by rfl))) (Z0 Z5)) wu (fun y3 => (Z1q () (Z9 (Zp hr.units) Z1r (Z0 (av 3 rfl)) (Z0 Z4) (nomark _)) wu (Za () () (a_if (Z26 (Zw d__law_done Z4a (Z1 (av 0 rfl) (Z1 (av 1 rfl) (Z1 (Zg (Z1 Z4 Z2)) Z2))) (hm hr) hG tk (by rfl))) Z4 Z5o) wu wu rfl) (Zf 4 () (Zx (Z1e (Z1 Z4 (Z1 Z4 (Z1 Z4 (Z1 Z4 (Z1 Z4 (Z1 Z4 Z2)))))))) wu (fun y4 => (Zg7 (S := D) (fun (y5 : D) => [.fz y0, .fz y1, .fz y2, .fz y3, .fz y5]) () (Z9 (Zp hr.units) Z1r (Z0 (a_ix (Z0 (av 2 rfl)) (Z0 Z5))) (Z0 Z4) (nomark _)) wu (fun y6 => (Zf 4 () (Zx (Z1e (Z1 Z4 (Z1 Z4 (Z1 Z4 (Z1 Z4 (Z1 Z4 (Z1 Z4 (Z1 Z4 Z2))))))))) wu (fun y7 => (Zr y7 (.k (.k (.k (.k (.k .nil))))) rfl)) sc__law_fault.nd lo)) (fun y6 => (Zr y4 (.k (.k (.k (.k (.k .nil))))) rfl)) (fun y8 => (Za () () (a_if (AW.at (Z3f (Z9 (Z6c (u65 hr)) Z6d (Z0 (av 3 rfl)) (Z0 (av 4 rfl)) (by rfl)) (Z2b (Z26 (Zw d__law_freed Z5u (Z1 (av 0 rfl) (Z1 (av 1 rfl) Z2)) (hm hr) hG tk (by rfl)))))) Z4 Z5o) wu wu rfl)))) sc__law_fault.nd lo))) sc__law_fault.nd lo) rfl
def Z2l : List D -> R Unit D
  | [y0] => R.few [] fun y1 => R.lft (dixG y0 (.str "names")) fun y2 => R.items y2 fun y3 => R.few y3 fun y4 => R.lst (R.fmapS (fun y5 _ => R.few [(.bl false), .non] fun y6 => R.ok (some (.tup y6), ())) y4 ()) fun y7 _ => R.lft (Z6t [y7]) fun y8 => R.few [(.int 0), (.tup y1), y8, (.int 0), (.bl false)] fun y9 => R.ok (.tup y9)
  | _ => .no
theorem Zcl : ∀ ds, Z2l ds ≠ .no -> ds.length = 1 := l1
theorem sc__law_first : FnScope ["_law_case_here", "_law_name"] ["_law_case_here"] (defScope Z3x) := fsc
theorem Zal (F : Fu K "_law_first" Z3x f fd) (T : Txt P w K mg) : FnG P w K mg base (L2.CX P w) 1 f fd ["_law_case_here"] (spM K (mk0 1) none (Lp Z2l)) := by
  refine okP F sc__law_first rfl (fun _ A _ s H E hr hG te tk po ds hl => ?_)
  match ds, hl with
  | [y0], _ => exact AB.eq (Za () () (Zg (Z1 Z5 (Z1 (Zg Z2) (Z1 (Z38 Z3m Z68 boot_tuple T.z_tuple (by rfl) (Z3 (Z0 (Zx (a_lc [("_law_name", 1)] (Zl (Z1v (Z0 (av 0 rfl)) Z4 (u1 hr))) (fun _ _ y1 => (Z6 1 (Zbd () (fun _ => (Zg (Z1 a_bl (Z1 Z5o Z2)))) (.k (.d .nil)) rfl) sc__law_first.nd lo)) rfl sc__law_first.nd (blkOk_by (N := ["_law_case_here", "_law_name"]) (sc := defScope Z3x) (by decide +kernel)) (Z1d rfl Z3e)))) Z7)) (Z1 Z5 (Z1 a_bl Z2)))))) wu wu rfl) rfl
def Z2j : List D -> R Unit D
  | [y0, y1] => R.bind (R.lft (ixG y1 (.int 3)) fun y2 => R.lft (dixG y0 (.str "puller")) fun y3 => R.lft (lenG [y3]) fun y4 => R.lft (eqG y2 y4) fun y5 => R.asB y5 fun y6 => if y6 then R.bind (R.lft (ixG y1 (.int 1)) fun y7 => R.few [] fun y8 => R.lft (eqG y7 (.tup y8)) fun y9 => R.asB y9 fun ya => if ya then R.call (Z13 [y0, y1]) () fun yb => R.asB yb fun yc => R.ok (.bl (!yc)) else R.ok (.bl false)) fun yd => R.ok yd else R.ok (.bl false)) fun ye => R.ok ye
  | _ => .no
theorem Zdi : ∀ ds, Z2j ds ≠ .no -> ds.length = 2 := l2
theorem Zbr : FnScope ["_law_case_here", "_law_state"] ["_law_case_here", "_law_state"] (defScope Z5a) := fsc
theorem Zc0 (F : Fu K "_law_kept" Z5a f fd) (T : Txt P w K mg) (d__law_freed : Dfn P w K mg base 2 "_law_freed" (mk0 2) none (Lp Z13)) : FnG P w K mg base (L2.CX P w) 3 f fd ["_law_case_here", "_law_state"] (spM K (mk0 2) none (Lp Z2j)) := by
  refine okP F Zbr rfl (fun _ A _ s H E hr hG te tk po ds hl => ?_)
  match ds, hl with
  | [y0, y1], _ => exact AB.eq (Za () () (Z8b (Z2o (Zp hr.units) Z1r (Z0 (a_ix (Z0 (av 1 rfl)) (Z0 Z5))) (Z0 (Zh call_len Z3b PySem.boot_len T.z_len (by rfl) (Z3 (Z0 (Z1v (Z0 (av 0 rfl)) Z4 (u1 hr))) Z7))) (nomark _)) (Z8b (Z2o (Zp hr.units) Z1r (Z0 (a_ix (Z0 (av 1 rfl)) (Z0 Z5))) (Z0 (Zg Z2)) (nomark _)) (Z4z (Zqs (Zw d__law_freed Z5u (Z1 (av 0 rfl) (Z1 (av 1 rfl) Z2)) (hm hr) hG tk (by rfl)))))) wu wu rfl) rfl
def Z2k : List D -> R Unit D
  | [y0, y1] => R.lft (ixG y1 (.int 1)) fun y2 => R.items y2 fun y3 => R.few y3 fun y4 => R.lst (R.fmapS (fun y5 _ => R.lft (dixG y0 (.str "hands")) fun y6 => R.lft (ixG y6 y5) fun y7 => R.ok (some y7, ())) y4 ()) fun y8 _ => (fun y9 => R.lft (dixG y0 (.str "works")) fun ya => R.lft (ixG y1 (.int 2)) fun yb => R.asQ ya fun yc => R.asQ yb fun yd => R.after (R.for' (zipD yc yd) y9 fun ye yf => R.tup2 ye fun yg yh => R.lft (ixG yh (.int 1)) fun yi => R.lft (Z4u yi .non) fun yj => R.asB yj fun yk => if yk then R.asL yf fun yl => R.lft (ixG yh (.int 1)) fun ym => R.lft (ixG yg ym) fun yn => R.push yl yn fun yo => R.ok (Step.nx yo) else R.ok (Step.nx yf)) (fun yp => R.ok yp) fun yq yr => R.ok yq) y8
  | _ => .no
theorem Z91 : ∀ ds, Z2k ds ≠ .no -> ds.length = 2 := l2
theorem sc__law_here : FnScope ["_law_case_here", "_law_state", "_law_found", "_law_row", "_law_one", "_law_place"] ["_law_case_here", "_law_state"] (defScope Z47) := fsc
theorem Zc2 (F : Fu K "_law_here" Z47 f fd) (T : Txt P w K mg) : FnG P w K mg base (L2.CX P w) 1 f fd ["_law_case_here", "_law_state"] (spM K (mk0 2) none (Lp Z2k)) := by
  refine okP F sc__law_here rfl (fun _ A _ s H E hr hG te tk po ds hl => ?_)
  match ds, hl with
  | [y0, y1], _ => exact AB.eq (Zbe 2 [("_law_place", 5)] () (Zl (a_ix (Z0 (av 1 rfl)) (Z0 Z5))) wu (fun _ _ y2 => (Z6 5 (Zbd () (fun _ => (a_ix (Z0 (Z1v (Z0 (av 0 rfl)) Z4 (u1 hr))) (Z0 (av 5 rfl)))) (.k (.k (.d (.d (.d (.d .nil)))))) rfl) sc__law_here.nd lo)) (fun y3 => (Z3y (S := D) (own := [3, 4]) (fun (y4 : D) => [.fz y0, .fz y1, .ow none y4 [], .un, .un, .un]) y3 (fun y5 => ()) () (Znl T.z_zip (by rfl) (Z1v (Z0 (av 0 rfl)) Z4 (u1 hr)) (a_ix (Z0 (av 1 rfl)) (Z0 Z5))) wu (.k (.k (.k (.d (.d (.d .nil)))))) (fun y5 => wu) (fun y6 y7 => (Z37 rfl (fun y8 y9 => (Z8 (Z6 3 (Z8 (Z6 4 (Z1u (Z4s () (Z9 op_notN Z5f (Z0 (a_ix (Z0 (av 4 rfl)) (Z0 Z5))) (Z0 Z5o) (nomark _)) wu (Z4t (tag := none) (d := y6) 2 rfl () (a_ix (Z0 (av 3 rfl)) (Z0 (a_ix (Z0 (av 4 rfl)) (Z0 Z5)))) wu (fun ya => (Zr ya (.k (.k (.k (.d (.d (.d .nil)))))) rfl))) (Zr y6 (.k (.k (.k (.d (.d (.d .nil)))))) rfl))) sc__law_here.nd lo)) sc__law_here.nd lo))))) (fun yb => (Z60 2 rfl (Za () () (av 2 rfl) wu wu rfl))) rfl po rfl rfl)) rfl sc__law_here.nd (blkOk_by (N := ["_law_case_here", "_law_state", "_law_found", "_law_row", "_law_one", "_law_place"]) (sc := defScope Z47) (by decide +kernel)) (Z1d rfl Z3e) rfl (sw_true rfl rfl rfl (by decide +kernel))) rfl
def Z1m : List D -> R Unit D
  | [y0, y1] => R.lft (dixG y0 (.str "puller")) fun y2 => R.lft (ixG y1 (.int 3)) fun y3 => R.asI y3 fun y4 => R.lft (slG y2 none (some y4)) fun y5 => R.items y5 fun y6 => R.few y6 fun y7 => R.lst (R.fmapS (fun y8 _ => R.lft (ixG y8 (.int 0)) fun y9 => R.ok (some y9, ())) y7 ()) fun ya _ => (fun yb => R.asQ yb fun _ => R.lft (cntG yb [(.str "lock")]) fun yc => R.asQ yb fun _ => R.lft (cntG yb [(.str "unlock")]) fun yd => R.lft (gtG yc yd) fun ye => R.ok ye) ya
  | _ => .no
theorem Z81 : ∀ ds, Z1m ds ≠ .no -> ds.length = 2 := l2
theorem sc__law_pulls : FnScope ["_law_case_here", "_law_state", "_law_words", "_law_step"] ["_law_case_here", "_law_state"] (defScope Z3v) := fsc
theorem Zaf (F : Fu K "_law_pulls" Z3v f fd) (T : Txt P w K mg) : FnG P w K mg base (L2.CX P w) 1 f fd ["_law_case_here", "_law_state"] (spM K (mk0 2) none (Lp Z1m)) := by
  refine okP F sc__law_pulls rfl (fun _ A _ s H E hr hG te tk po ds hl => ?_)
  match ds, hl with
  | [y0, y1], _ => exact AB.eq (Zbe 2 [("_law_step", 3)] () (Zl (a_sl (Z0 (Z1v (Z0 (av 0 rfl)) Z4 (u1 hr))) Z4g (Z2n (Z0 (a_ix (Z0 (av 1 rfl)) (Z0 Z5)))))) wu (fun _ _ y2 => (Z6 3 (Zbd () (fun _ => (a_ix (Z0 (av 3 rfl)) (Z0 Z5))) (.k (.k (.d (.d .nil)))) rfl) sc__law_pulls.nd lo)) (fun y3 => (Z60 2 rfl (Za () () (Z2o op_gt Zdd (Z0 (Zqv (u65 hr) (Z0 (av 2 rfl)) (Z3 (Z0 Z4) Z7))) (Z0 (Zqv (u65 hr) (Z0 (av 2 rfl)) (Z3 (Z0 Z4) Z7))) (nomark _)) wu wu rfl))) rfl sc__law_pulls.nd (blkOk_by (N := ["_law_case_here", "_law_state", "_law_words", "_law_step"]) (sc := defScope Z3v) (by decide +kernel)) (Z1d rfl Z3e) rfl (sw_true rfl rfl rfl (by decide +kernel))) rfl
def Z12 : List D -> R Unit D
  | [y0, y1, y2] => R.lft (ixG y2 (.int 0)) fun y3 => R.lft (eqG y3 (.str "lock")) fun y4 => R.asB y4 fun y5 => if y5 then R.bind (R.call (Z1m [y0, y1]) () fun y6 => R.asB y6 fun y7 => if y7 then R.ok (.bl true) else R.call (Z2k [y0, y1]) () fun y8 => R.items y8 fun y9 => R.few y9 fun ya => R.lst (R.fmapS (fun yb _ => R.lft (ixG yb (.int 5)) fun yc => R.asB yc fun yd => if yd then R.ok (some yb, ()) else R.ok (none, ())) ya ()) fun ye _ => R.few [] fun yf => R.lft (neG ye (.lst yf)) fun yg => R.ok yg) fun yh => R.ok yh else R.lft (eqG y3 (.str "wait")) fun yi => R.asB yi fun yj => if yj then R.call (Z2k [y0, y1]) () fun yk => R.items yk fun yl => R.few yl fun ym => R.lst (R.fmapS (fun yn _ => R.lft (ixG yn (.int 4)) fun yo => R.asB yo fun yp => if yp then R.ok (some yn, ()) else R.ok (none, ())) ym ()) fun yq _ => R.few [] fun yr => R.lft (neG yq (.lst yr)) fun ys => R.ok ys else R.lft (eqG y3 (.str "empty")) fun yt => R.asB yt fun yu => if yu then R.bind (R.lft (ixG y1 (.int 4)) fun yv => R.asB yv fun yw => if yw then R.ok (.bl true) else R.lft (ixG y1 (.int 1)) fun yx => R.items yx fun yy => R.few yy fun yz => R.lst (R.fmapS (fun y10 _ => R.lft (dixG y0 (.str "hands")) fun y11 => R.lft (ixG y11 y10) fun y12 => R.lft (ixG y12 (.int 3)) fun y13 => R.asB y13 fun y14 => if y14 then R.ok (some y10, ()) else R.ok (none, ())) yz ()) fun y15 _ => R.few [] fun y16 => R.lft (neG y15 (.lst y16)) fun y17 => R.ok y17) fun y18 => R.ok y18 else R.bind (R.lft (eqG y3 (.str "idle")) fun y19 => R.asB y19 fun y1a => if y1a then R.lft (ixG y1 (.int 2)) fun y1b => R.lft (dixG y0 (.str "names")) fun y1c => R.asQ y1c fun _ => R.lft (ixG y2 (.int 1)) fun y1d => R.lft (idxG y1c [y1d]) fun y1e => R.lft (ixG y1b y1e) fun y1f => R.lft (ixG y1f (.int 1)) fun y1g => R.lft (Z4u y1g .non) fun y1h => R.ok y1h else R.ok (.bl false)) fun y1i => R.ok y1i
  | _ => .no
theorem Z5t : ∀ ds, Z12 ds ≠ .no -> ds.length = 3 := l3
theorem sc__law_waits : FnScope ["_law_case_here", "_law_state", "_law_item_here", "_law_word", "_law_one", "_law_place"] ["_law_case_here", "_law_state", "_law_item_here"] (defScope Z2d) := fsc
theorem Zad (F : Fu K "_law_waits" Z2d f fd) (T : Txt P w K mg) (d__law_here : Dfn P w K mg base 1 "_law_here" (mk0 2) none (Lp Z2k)) (d__law_pulls : Dfn P w K mg base 1 "_law_pulls" (mk0 2) none (Lp Z1m)) : FnG P w K mg base (L2.CX P w) 2 f fd ["_law_case_here", "_law_state", "_law_item_here"] (spM K (mk0 3) none (Lp Z12)) := by
  refine okP F sc__law_waits rfl (fun _ A _ s H E hr hG te tk po ds hl => ?_)
  match ds, hl with
  | [y0, y1, y2], _ => exact AB.eq (Zf 3 () (a_ix (Z0 (av 2 rfl)) (Z0 Z5)) wu (fun y3 => (Z1q () (Z9 (Zp hr.units) Z1r (Z0 (av 3 rfl)) (Z0 Z4) (nomark _)) wu (Za () () (a_or (Zw d__law_pulls Z81 (Z1 (av 0 rfl) (Z1 (av 1 rfl) Z2)) (hm hr) hG tk (by rfl)) (Z4z (Z2o (Z50 hr.units) Z7j (Z0 (Zx (a_lc [("_law_one", 4)] (Zl (Zw d__law_here Z91 (Z1 (av 0 rfl) (Z1 (av 1 rfl) Z2)) (hm hr) hG tk (by rfl))) (fun _ _ y4 => (Z6 4 (Z6h () (fun _ => (Z26 (a_ix (Z0 (av 4 rfl)) (Z0 Z5)))) (fun _ => (av 4 rfl)) (.k (.k (.k (.k (.d (.d .nil)))))) rfl) sc__law_waits.nd lo)) rfl sc__law_waits.nd (blkOk_by (N := ["_law_case_here", "_law_state", "_law_item_here", "_law_word", "_law_one", "_law_place"]) (sc := defScope Z2d) (by decide +kernel)) (Z1d rfl Z3e)))) (Z0 (Zx (Z1e Z2))) (nomark _)))) wu wu rfl) (Z1q () (Z9 (Zp hr.units) Z1r (Z0 (av 3 rfl)) (Z0 Z4) (nomark _)) wu (Za () () (Z2o (Z50 hr.units) Z7j (Z0 (Zx (a_lc [("_law_one", 4)] (Zl (Zw d__law_here Z91 (Z1 (av 0 rfl) (Z1 (av 1 rfl) Z2)) (hm hr) hG tk (by rfl))) (fun _ _ y5 => (Z6 4 (Z6h () (fun _ => (Z26 (a_ix (Z0 (av 4 rfl)) (Z0 Z5)))) (fun _ => (av 4 rfl)) (.k (.k (.k (.k (.d (.d .nil)))))) rfl) sc__law_waits.nd lo)) rfl sc__law_waits.nd (blkOk_by (N := ["_law_case_here", "_law_state", "_law_item_here", "_law_word", "_law_one", "_law_place"]) (sc := defScope Z2d) (by decide +kernel)) (Z1d rfl Z3e)))) (Z0 (Zx (Z1e Z2))) (nomark _)) wu wu rfl) (Z1q () (Z9 (Zp hr.units) Z1r (Z0 (av 3 rfl)) (Z0 Z4) (nomark _)) wu (Za () () (a_or (a_ix (Z0 (av 1 rfl)) (Z0 Z5)) (Z4z (Z2o (Z50 hr.units) Z7j (Z0 (Zx (a_lc [("_law_place", 5)] (Zl (a_ix (Z0 (av 1 rfl)) (Z0 Z5))) (fun _ _ y6 => (Z6 5 (Z6h () (fun _ => (Z26 (a_ix (Z0 (a_ix (Z0 (Z1v (Z0 (av 0 rfl)) Z4 (u1 hr))) (Z0 (av 5 rfl)))) (Z0 Z5)))) (fun _ => (av 5 rfl)) (.k (.k (.k (.k (.d (.d .nil)))))) rfl) sc__law_waits.nd lo)) rfl sc__law_waits.nd (blkOk_by (N := ["_law_case_here", "_law_state", "_law_item_here", "_law_word", "_law_one", "_law_place"]) (sc := defScope Z2d) (by decide +kernel)) (Z1d rfl Z3e)))) (Z0 (Zx (Z1e Z2))) (nomark _)))) wu wu rfl) (Za () () (Z8b (Z2o (Zp hr.units) Z1r (Z0 (av 3 rfl)) (Z0 Z4) (nomark _)) (Z4z (Z2o op_notN Z5f (Z0 (a_ix (Z0 (a_ix (Z0 (a_ix (Z0 (av 1 rfl)) (Z0 Z5))) (Z0 (Ze7 (u65 hr) (Z0 (Z1v (Z0 (av 0 rfl)) Z4 (u1 hr))) (Z3 (Z0 (a_ix (Z0 (av 2 rfl)) (Z0 Z5))) Z7))))) (Z0 Z5))) (Z0 Z5o) (nomark _)))) wu wu rfl))))) sc__law_waits.nd lo) rfl
def Z1x : List D -> R Unit D
  | [y0, y1, y2] => R.tup5 y1 fun y3 y4 y5 y6 y7 => R.few [(.str "come")] fun y8 => R.few [(.tup y8)] fun y9 => R.lft (ltG y3 y2) fun ya => R.lft (Z4y [ya]) fun yb => R.lft (repG (.lst y9) yb) fun yc => R.lft (Z9s y4) fun yd => R.items yd fun ye => R.after (R.for' ye yc fun yf yg => R.lft (dixG y0 (.str "hands")) fun yh => R.lft (ixG yh yf) fun yi => R.lft (ixG yi (.int 0)) fun yj => R.call (Z12 [y0, y1, yj]) () fun yk => R.asB yk fun yl => if (!yl) then R.asL yg fun ym => R.few [(.str "go"), yf] fun yn => R.push ym (.tup yn) fun yo => R.ok (Step.nx yo) else R.ok (Step.nx yg)) (fun yp => R.lft (dixG y0 (.str "names")) fun yq => R.enumA yq fun yr => R.after (R.for' yr yp fun ys yt => R.tup2 ys fun yu yv => R.bind (R.lft (ixG y5 yu) fun yw => R.lft (ixG yw (.int 0)) fun yx => R.asB yx fun yy => if yy then R.lft (ixG y5 yu) fun yz => R.lft (ixG yz (.int 1)) fun y10 => R.lft (isNG y10 .non) fun y11 => R.asB y11 fun y12 => R.ok y12 else R.ok false) fun y13 => if y13 then R.asL yt fun y14 => R.few [(.str "begin"), yv] fun y15 => R.push y14 (.tup y15) fun y16 => R.ok (Step.nx y16) else R.ok (Step.nx yt)) (fun y17 => R.lft (dixG y0 (.str "names")) fun y18 => R.enumA y18 fun y19 => R.after (R.for' y19 y17 fun y1a y1b => R.tup2 y1a fun y1c y1d => R.lft (dixG y0 (.str "works")) fun y1e => R.lft (ixG y1e y1c) fun y1f => R.lft (ixG y5 y1c) fun y1g => R.lft (ixG y1g (.int 1)) fun y1h => (match [y1f, y1h] with | [y1i, y1j] => R.bind (R.lft (Z4u y1j .non) fun y1k => R.asB y1k fun y1l => if y1l then R.lft (ixG y1i y1j) fun y1m => R.lft (ixG y1m (.int 0)) fun y1n => R.call (Z12 [y0, y1, y1n]) () fun y1o => R.asB y1o fun y1p => R.ok (!y1p) else R.ok false) fun y1q => if y1q then R.asL y1b fun y1r => R.few [(.str "run"), y1d] fun y1s => R.push y1r (.tup y1s) fun y1t => R.ok (Step.nx y1t) else R.ok (Step.nx y1b) | _ => R.no)) (fun y1u => R.join (fun (y1v : D) => R.ok y1v) fun y1w => R.bind (R.lft (dixG y0 (.str "puller")) fun y1x => R.lft (lenG [y1x]) fun y1y => R.lft (ltG y6 y1y) fun y1z => R.asB y1z fun y20 => if y20 then R.lft (dixG y0 (.str "puller")) fun y21 => R.lft (ixG y21 y6) fun y22 => R.call (Z12 [y0, y1, y22]) () fun y23 => R.asB y23 fun y24 => R.ok (!y24) else R.ok false) fun y25 => if y25 then R.asL y1u fun y26 => R.few [(.str "step")] fun y27 => R.push y26 (.tup y27) fun y28 => y1w y28 else y1w y1u) fun y29 y2a => R.ok y29) fun y2b y2c => R.ok y2b) fun y2d y2e => R.ok y2d
  | _ => .no
theorem Zcj : ∀ ds, Z1x ds ≠ .no -> ds.length = 3 := l3
theorem sc__law_moves : FnScope ["_law_case_here", "_law_state", "_law_top", "_law_came", "_law_inside", "_law_jobs", "_law_done_here", "_law_leaked", "_law_found", "_law_place", "_law_at", "_law_name", "_law_row"] ["_law_case_here", "_law_state", "_law_top"] (defScope Z4j) := fsc
theorem Zag (F : Fu K "_law_moves" Z4j f fd) (T : Txt P w K mg) (d__law_waits : Dfn P w K mg base 2 "_law_waits" (mk0 3) none (Lp Z12)) : FnG P w K mg base (L2.CX P w) 3 f fd ["_law_case_here", "_law_state", "_law_top"] (spM K (mk0 3) none (Lp Z1x)) := by
  refine okP F sc__law_moves rfl (fun _ A _ s H E hr hG te tk po ds hl => ?_)
  match ds, hl with
  | [y0, y1, y2], _ => exact AB.eq (Zcx (own := [3, 4, 5, 6, 7]) () (av 1 rfl) wu (fun y3 => (Zbc rfl (fun y4 y5 y6 y7 y8 => (Z8 (Z6 3 (Z8 (Z6 4 (Z8 (Z6 5 (Z8 (Z6 6 (Z8 (Z6 7 (Z1u (Z2x [.fz y0, .fz y1, .fz y2, .fz y4, .fz y5, .fz y6, .fz y7, .fz y8, .un, .un, .un, .un, .un] rfl (Z4h 8 () (Ze6 (Z1e (Z1 (Zg (Z1 Z4 Z2)) Z2)) (Z0 (Z38 call_int1 Z6g boot_int T.z_int (by rfl) (Z3 (Z0 (Z2o op_lt Zc8 (Z0 (av 3 rfl)) (Z0 (av 2 rfl)) (nomark _))) Z7)))) wu (fun y9 => (Z3y (S := D) (own := [9]) (fun (ya : D) => [.fz y0, .fz y1, .fz y2, .fz y4, .fz y5, .fz y6, .fz y7, .fz y8, .ow none ya [], .un, .un, .un, .un]) y9 (fun yb => ()) () (Zl (Zx (Zcy (Z0 (av 4 rfl)) rfl T.z_sorted T.z_set (by rfl) (by rfl)))) wu (.k (.k (.k (.k (.k (.k (.k (.k (.k (.d (.d (.d (.d .nil))))))))))))) (fun yb => wu) (fun yc yd => (Z6 9 (Z4s () (Z79 (Z26 (Zw d__law_waits Z5t (Z1 (av 0 rfl) (Z1 (av 1 rfl) (Z1 (a_ix (Z0 (a_ix (Z0 (Z1v (Z0 (av 0 rfl)) Z4 (u1 hr))) (Z0 (av 9 rfl)))) (Z0 Z5)) Z2))) (hm hr) hG tk (by rfl)))) wu (Z4t (tag := none) (d := yc) 8 rfl () (Zg (Z1 Z4 (Z1 (av 9 rfl) Z2))) wu (fun ye => (Zr ye (.k (.k (.k (.k (.k (.k (.k (.k (.k (.d (.d (.d (.d .nil))))))))))))) rfl))) (Zr yc (.k (.k (.k (.k (.k (.k (.k (.k (.k (.d (.d (.d (.d .nil))))))))))))) rfl)) sc__law_moves.nd lo)) (fun yf => (Z3y (S := D) (own := [10, 11]) (fun (yg : D) => [.fz y0, .fz y1, .fz y2, .fz y4, .fz y5, .fz y6, .fz y7, .fz y8, .ow none yg [], .un, .un, .un, .un]) yf (fun yh => ()) () (Z69 T.z_enumerate (by rfl) (Z1v (Z0 (av 0 rfl)) Z4 (u1 hr))) wu (.k (.k (.k (.k (.k (.k (.k (.k (.k (.d (.d (.d (.d .nil))))))))))))) (fun yh => wu) (fun yi yj => (Z37 rfl (fun yk yl => (Z8 (Z6 10 (Z8 (Z6 11 (Z1u (Z4s () (AW.at (Z3f (Z26 (a_ix (Z0 (a_ix (Z0 (av 5 rfl)) (Z0 (av 10 rfl)))) (Z0 Z5))) (Z2b (Z9 op_isN Zl2 (Z0 (a_ix (Z0 (a_ix (Z0 (av 5 rfl)) (Z0 (av 10 rfl)))) (Z0 Z5))) (Z0 Z5o) (nomark _))))) wu (Z4t (tag := none) (d := yi) 8 rfl () (Zg (Z1 Z4 (Z1 (av 11 rfl) Z2))) wu (fun ym => (Zr ym (.k (.k (.k (.k (.k (.k (.k (.k (.k (.d (.d (.d (.d .nil))))))))))))) rfl))) (Zr yi (.k (.k (.k (.k (.k (.k (.k (.k (.k (.d (.d (.d (.d .nil))))))))))))) rfl))) sc__law_moves.nd lo)) sc__law_moves.nd lo))))) (fun yn => (Z3y (S := D) (own := [10, 11]) (fun (yo : D) => [.fz y0, .fz y1, .fz y2, .fz y4, .fz y5, .fz y6, .fz y7, .fz y8, .ow none yo [], .un, .un, .un, .un]) yn (fun yp => ()) () (Z69 T.z_enumerate (by rfl) (Z1v (Z0 (av 0 rfl)) Z4 (u1 hr))) wu (.k (.k (.k (.k (.k (.k (.k (.k (.k (.d (.d (.d (.d .nil))))))))))))) (fun yp => wu) (fun yq yr => (Z37 rfl (fun ys yt => (Z8 (Z6 10 (Z8 (Z6 11 (Z1u (Zlk 12 9 () (Z1 (a_ix (Z0 (Z1v (Z0 (av 0 rfl)) Z4 (u1 hr))) (Z0 (av 10 rfl))) (Z1 (a_ix (Z0 (a_ix (Z0 (av 5 rfl)) (Z0 (av 10 rfl)))) (Z0 Z5)) Z2)) wu (fun yu yv => (Z2x [.fz y0, .fz y1, .fz y2, .fz y4, .fz y5, .fz y6, .fz y7, .fz y8, .ow none yq [], .fz yv, .fz ys, .fz yt, .fz yu] rfl (Z4s () (AW.at (Z3f (Z9 op_notN Z5f (Z0 (av 9 rfl)) (Z0 Z5o) (nomark _)) (Z2b (Z79 (Z26 (Zw d__law_waits Z5t (Z1 (av 0 rfl) (Z1 (av 1 rfl) (Z1 (a_ix (Z0 (a_ix (Z0 (av 12 rfl)) (Z0 (av 9 rfl)))) (Z0 Z5)) Z2))) (hm hr) hG tk (by rfl))))))) wu (Z4t (tag := none) (d := yq) 8 rfl () (Zg (Z1 Z4 (Z1 (av 11 rfl) Z2))) wu (fun yw => (Zr yw (.k (.k (.k (.k (.k (.k (.k (.k (.k (.d (.d (.d (.d .nil))))))))))))) rfl))) (Zr yq (.k (.k (.k (.k (.k (.k (.k (.k (.k (.d (.d (.d (.d .nil))))))))))))) rfl)))) rfl sc__law_moves.nd)) sc__law_moves.nd lo)) sc__law_moves.nd lo))))) (fun yx => (Zg7 (S := D) (fun (yy : D) => [.fz y0, .fz y1, .fz y2, .fz y4, .fz y5, .fz y6, .fz y7, .fz y8, .ow none yy [], .un, .un, .un, .un]) () (AW.at (Z3f (Z9 op_lt Zc8 (Z0 (av 6 rfl)) (Z0 (Zh call_len Z3b PySem.boot_len T.z_len (by rfl) (Z3 (Z0 (Z1v (Z0 (av 0 rfl)) Z4 (u1 hr))) Z7))) (nomark _)) (Z2b (Z79 (Z26 (Zw d__law_waits Z5t (Z1 (av 0 rfl) (Z1 (av 1 rfl) (Z1 (a_ix (Z0 (Z1v (Z0 (av 0 rfl)) Z4 (u1 hr))) (Z0 (av 6 rfl))) Z2))) (hm hr) hG tk (by rfl))))))) wu (fun yz => (Z4t (tag := none) (d := yx) 8 rfl () (Zg (Z1 Z4 Z2)) wu (fun y10 => (Zr y10 (.k (.k (.k (.k (.k (.k (.k (.k (.k (.d (.d (.d (.d .nil))))))))))))) rfl)))) (fun yz => (Zr yx (.k (.k (.k (.k (.k (.k (.k (.k (.k (.d (.d (.d (.d .nil))))))))))))) rfl)) (fun y11 => (Z60 8 rfl (Za () () (av 8 rfl) wu wu rfl))))) rfl po rfl rfl)) rfl po rfl rfl)) rfl po rfl rfl)) sc__law_moves.nd lo))) sc__law_moves.nd lo)) sc__law_moves.nd lo)) sc__law_moves.nd lo)) sc__law_moves.nd lo)) sc__law_moves.nd lo)))))) rfl
def Z1w : List D -> R Unit D
  | [y0, y1] => R.lft (ixG y1 (.int 1)) fun y2 => R.items y2 fun y3 => R.few y3 fun y4 => R.lst (R.fmapS (fun y5 _ => R.lft (dixG y0 (.str "hands")) fun y6 => R.lft (ixG y6 y5) fun y7 => R.few [.non] fun y8 => R.lft (addA y7 (.lst y8)) fun y9 => R.ok (some y9, ())) y4 ()) fun ya _ => (fun yb => R.lft (dixG y0 (.str "names")) fun yc => R.lft (dixG y0 (.str "works")) fun yd => R.lft (ixG y1 (.int 2)) fun ye => R.asQ yc fun yf => R.asQ yd fun yg => R.asQ ye fun yh => R.after (R.for' (zipD3 yf yg yh) yb fun yi yj => R.tup3 yi fun yk yl ym => R.lft (ixG ym (.int 1)) fun yn => R.lft (Z4u yn .non) fun yo => R.asB yo fun yp => if yp then R.asL yj fun yq => R.lft (ixG ym (.int 1)) fun yr => R.lft (ixG yl yr) fun ys => R.few [yk] fun yt => R.lft (addA ys (.lst yt)) fun yu => R.push yq yu fun yv => R.ok (Step.nx yv) else R.ok (Step.nx yj)) (fun yw => R.items yw fun yx => R.few yx fun yy => R.lst (R.fmapS (fun yz _ => R.lft (ixG yz (.int 0)) fun y10 => R.few [(.str "lock")] fun y11 => R.lft (eqG y10 (.tup y11)) fun y12 => R.asB y12 fun y13 => if y13 then R.ok (some yz, ()) else R.ok (none, ())) yy ()) fun y14 _ => R.call (Z1m [y0, y1]) () fun y15 => R.lft (ixG y1 (.int 3)) fun y16 => R.lft (dixG y0 (.str "puller")) fun y17 => R.lft (lenG [y17]) fun y18 => R.lft (eqG y16 y18) fun y19 => R.asB y19 fun y1a => if y1a then R.bind (R.asB y15 fun y1b => if y1b then R.few [] fun y1c => R.lft (neG y14 (.lst y1c)) fun y1d => R.ok y1d else R.ok (.bl false)) fun y1e => R.ok y1e else R.lft (dixG y0 (.str "puller")) fun y1f => R.lft (ixG y1 (.int 3)) fun y1g => R.lft (ixG y1f y1g) fun y1h => R.bind (R.lft (ixG y1h (.int 0)) fun y1i => R.lft (eqG y1i (.str "empty")) fun y1j => R.asB y1j fun y1k => if y1k then R.lft (ixG y1 (.int 4)) fun y1l => R.asB y1l fun y1m => R.ok y1m else R.ok false) fun y1n => if y1n then R.ok (.bl true) else R.items y14 fun y1o => R.few y1o fun y1p => R.lst (R.fmapS (fun y1q _ => R.lft (ixG y1q (.int 4)) fun y1r => R.asB y1r fun y1s => if y1s then R.ok (some y1q, ()) else R.ok (none, ())) y1p ()) fun y1t _ => R.ky (.str "wait") fun y1u => R.items y14 fun y1v => R.few y1v fun y1w => R.lst (R.fmapS (fun y1x _ => R.lft (ixG y1x (.int 3)) fun y1y => R.asB y1y fun y1z => if y1z then R.ok (some y1x, ()) else R.ok (none, ())) y1w ()) fun y20 _ => R.ky (.str "empty") fun y21 => if ([(y1u, y1t), (y21, y20)] : List (Key × D)).length ≤ 15 then R.asDct (.dct (Z4v [] [(y1u, y1t), (y21, y20)])) fun y22 => R.items y14 fun y23 => R.few y23 fun y24 => R.lst (R.fmapS (fun y25 _ => R.bind (R.lft (ixG y25 (.int 6)) fun y26 => R.lft (Z4u y26 .non) fun y27 => R.asB y27 fun y28 => if y28 then R.lft (ixG y25 (.int 6)) fun y29 => R.asI (.int 1) fun y2a => R.lft (ixG y1h (.int (-y2a))) fun y2b => R.lft (eqG y29 y2b) fun y2c => R.asB y2c fun y2d => R.ok y2d else R.ok false) fun y2e => if y2e then R.ok (some y25, ()) else R.ok (none, ())) y24 ()) fun y2f _ => R.putDct y22 (.str "idle") y2f fun y2g => R.bind (R.asB y15 fun y2h => if y2h then R.lft (asKD y2g) fun y2i => R.lft (ixG y1h (.int 0)) fun y2j => R.few [] fun y2k => R.lft (Zk5 y2i y2j (.lst y2k)) fun y2l => R.few [] fun y2m => R.lft (neG y2l (.lst y2m)) fun y2n => R.ok y2n else R.ok (.bl false)) fun y2o => R.ok y2o else R.no) fun y2p y2q => R.ok y2p) ya
  | _ => .no
theorem Zci : ∀ ds, Z1w ds ≠ .no -> ds.length = 2 := l2
theorem sc__law_stuck : FnScope ["_law_case_here", "_law_state", "_law_here_here", "_law_name", "_law_row", "_law_one", "_law_pulls_here", "_law_step", "_law_some", "_law_place", "_law_entry"] ["_law_case_here", "_law_state"] (defScope Z1j) := fsc
theorem Zae (F : Fu K "_law_stuck" Z1j f fd) (T : Txt P w K mg) (d__law_pulls : Dfn P w K mg base 1 "_law_pulls" (mk0 2) none (Lp Z1m)) : FnG P w K mg base (L2.CX P w) 2 f fd ["_law_case_here", "_law_state"] (spM K (mk0 2) none (Lp Z1w)) := by
  refine okP F sc__law_stuck rfl (fun _ A _ s H E hr hG te tk po ds hl => ?_)
  match ds, hl with
  | [y0, y1], _ => exact AB.eq (Zbe 2 [("_law_place", 9)] () (Zl (a_ix (Z0 (av 1 rfl)) (Z0 Z5))) wu (fun _ _ y2 => (Z6 9 (Zbd () (fun _ => (a_op Zd Ze (Z0 (a_ix (Z0 (Z1v (Z0 (av 0 rfl)) Z4 (u1 hr))) (Z0 (av 9 rfl)))) (Z0 (Zx (Z1e (Z1 Z5o Z2)))))) (.k (.k (.d (.d (.d (.d (.d (.d (.d (.d (.d .nil))))))))))) rfl) sc__law_stuck.nd lo)) (fun y3 => (Z3y (S := D) (own := [3, 4, 5]) (fun (y4 : D) => [.fz y0, .fz y1, .ow none y4 [], .un, .un, .un, .un, .un, .un, .un, .un]) y3 (fun y5 => ()) () (Znk T.z_zip (by rfl) (Z1v (Z0 (av 0 rfl)) Z4 (u1 hr)) (Z1v (Z0 (av 0 rfl)) Z4 (u1 hr)) (a_ix (Z0 (av 1 rfl)) (Z0 Z5))) wu (.k (.k (.k (.d (.d (.d (.d (.d (.d (.d (.d .nil))))))))))) (fun y5 => wu) (fun y6 y7 => (Znm rfl (fun y8 y9 ya => (Z8 (Z6 3 (Z8 (Z6 4 (Z8 (Z6 5 (Z1u (Z2x [.fz y0, .fz y1, .ow none y6 [], .fz y8, .fz y9, .fz ya, .un, .un, .un, .un, .un] rfl (Z4s () (Z9 op_notN Z5f (Z0 (a_ix (Z0 (av 5 rfl)) (Z0 Z5))) (Z0 Z5o) (nomark _)) wu (Z4t (tag := none) (d := y6) 2 rfl () (a_op Zd Ze (Z0 (a_ix (Z0 (av 4 rfl)) (Z0 (a_ix (Z0 (av 5 rfl)) (Z0 Z5))))) (Z0 (Zx (Z1e (Z1 (av 3 rfl) Z2))))) wu (fun yb => (Zr yb (.k (.k (.k (.d (.d (.d (.d (.d (.d (.d (.d .nil))))))))))) rfl))) (Zr y6 (.k (.k (.k (.d (.d (.d (.d (.d (.d (.d (.d .nil))))))))))) rfl)))) sc__law_stuck.nd lo)) sc__law_stuck.nd lo)) sc__law_stuck.nd lo))))) (fun yc => (Z60 2 rfl (Z9f (k1 := some []) (k2 := none) 2 6 () (Zng (a_lc [("_law_entry", 10)] (Zl (av 2 rfl)) (fun _ _ yd => (Z6 10 (Z6h () (fun _ => (Z9 (Zp hr.units) Z1r (Z0 (a_ix (Z0 (av 10 rfl)) (Z0 Z5))) (Z0 (Zg (Z1 Z4 Z2))) (nomark _))) (fun _ => (av 10 rfl)) (.k (.k (.k (.d (.d (.d (.d (.d (.d (.d (.d .nil))))))))))) rfl) sc__law_stuck.nd lo)) rfl sc__law_stuck.nd (blkOk_by (N := ["_law_case_here", "_law_state", "_law_here_here", "_law_name", "_law_row", "_law_one", "_law_pulls_here", "_law_step", "_law_some", "_law_place", "_law_entry"]) (sc := defScope Z1j) (by decide +kernel)) (Z1d rfl Z3e)) (Znh (Zw d__law_pulls Z81 (Z1 (av 0 rfl) (Z1 (av 1 rfl) Z2)) (hm hr) hG tk (by rfl)) Ze1)) wu (fun ye yf yg => (Z1q () (Z9 (Zp hr.units) Z1r (Z0 (a_ix (Z0 (av 1 rfl)) (Z0 Z5))) (Z0 (Zh call_len Z3b PySem.boot_len T.z_len (by rfl) (Z3 (Z0 (Z1v (Z0 (av 0 rfl)) Z4 (u1 hr))) Z7))) (nomark _)) wu (Za () () (Z8b (av 6 rfl) (Z4z (Z2o (Z50 hr.units) Z7j (al 2 rfl) (Z0 (Zx (Z1e Z2))) (nomark _)))) wu wu rfl) (Zf 7 () (a_ix (Z0 (Z1v (Z0 (av 0 rfl)) Z4 (u1 hr))) (Z0 (a_ix (Z0 (av 1 rfl)) (Z0 Z5)))) wu (fun yh => (Z1q () (AW.at (Z3f (Z9 (Zp hr.units) Z1r (Z0 (a_ix (Z0 (av 7 rfl)) (Z0 Z5))) (Z0 Z4) (nomark _)) (Z2b (Z26 (a_ix (Z0 (av 1 rfl)) (Z0 Z5)))))) wu (Za () () a_bl wu wu rfl) (Z60 2 rfl (Z4h 8 () (ANn.an (Z7a (Z3g Z4 (Zx (a_lc [("_law_entry", 10)] (Zl (av 2 rfl)) (fun _ _ yi => (Z6 10 (Z6h () (fun _ => (Z26 (a_ix (Z0 (av 10 rfl)) (Z0 Z5)))) (fun _ => (av 10 rfl)) (.k (.k (.k (.d (.d (.d (.k (.k (.d (.d (.d .nil))))))))))) rfl) sc__law_stuck.nd lo)) rfl sc__law_stuck.nd (blkOk_by (N := ["_law_case_here", "_law_state", "_law_here_here", "_law_name", "_law_row", "_law_one", "_law_pulls_here", "_law_step", "_law_some", "_law_place", "_law_entry"]) (sc := defScope Z1j) (by decide +kernel)) (Z1d rfl Z3e))) (Z3g Z4 (Zx (a_lc [("_law_entry", 10)] (Zl (av 2 rfl)) (fun _ _ yj => (Z6 10 (Z6h () (fun _ => (Z26 (a_ix (Z0 (av 10 rfl)) (Z0 Z5)))) (fun _ => (av 10 rfl)) (.k (.k (.k (.d (.d (.d (.k (.k (.d (.d (.d .nil))))))))))) rfl) sc__law_stuck.nd lo)) rfl sc__law_stuck.nd (blkOk_by (N := ["_law_case_here", "_law_state", "_law_here_here", "_law_name", "_law_row", "_law_one", "_law_pulls_here", "_law_step", "_law_some", "_law_place", "_law_entry"]) (sc := defScope Z1j) (by decide +kernel)) (Z1d rfl Z3e))) Z9e)) rfl rfl (by decide) (by decide))) wu (fun yk => (Z2x [.fz y0, .fz y1, .fz ye, .un, .un, .un, .fz yf, .fz yh, .ow none yk [], .un, .un] rfl (Z7v (tag := none) (d := yk) 8 rfl () Z4 (Zx (a_lc [("_law_entry", 10)] (Zl (av 2 rfl)) (fun _ _ yl => (Z6 10 (Z6h () (fun _ => (AW.at (Z3f (Z9 op_notN Z5f (Z0 (a_ix (Z0 (av 10 rfl)) (Z0 Z5))) (Z0 Z5o) (nomark _)) (Z2b (Z9 (Zp hr.units) Z1r (Z0 (a_ix (Z0 (av 10 rfl)) (Z0 Z5))) (Z0 (a_ix (Z0 (av 7 rfl)) (Z0 (Zqt (Z0 Z5))))) (nomark _)))))) (fun _ => (av 10 rfl)) (.k (.k (.k (.d (.d (.d (.k (.k (.k (.d (.d .nil))))))))))) rfl) sc__law_stuck.nd lo)) rfl sc__law_stuck.nd (blkOk_by (N := ["_law_case_here", "_law_state", "_law_here_here", "_law_name", "_law_row", "_law_one", "_law_pulls_here", "_law_step", "_law_some", "_law_place", "_law_entry"]) (sc := defScope Z1j) (by decide +kernel)) (Z1d rfl Z3e))) wu (fun ym => (Za () () (Z8b (av 6 rfl) (Z4z (Z2o (Z50 hr.units) Z7j (Z0 (Znu (al 8 rfl) (a_ix (Z0 (av 7 rfl)) (Z0 Z5)) (Zx (Z1e Z2)) (u1 hr))) (Z0 (Zx (Z1e Z2))) (nomark _)))) wu wu rfl)) (u1 hr)))) sc__law_stuck.nd lo)))) sc__law_stuck.nd lo))) rfl sc__law_stuck.nd))) rfl po rfl rfl)) rfl sc__law_stuck.nd (blkOk_by (N := ["_law_case_here", "_law_state", "_law_here_here", "_law_name", "_law_row", "_law_one", "_law_pulls_here", "_law_step", "_law_some", "_law_place", "_law_entry"]) (sc := defScope Z1j) (by decide +kernel)) (Z1d rfl Z3e) rfl (sw_true rfl rfl rfl (by decide +kernel))) rfl
def Z1f : List D -> R Unit (D × List D)
  | [y0, y1] => R.call (Z2l [y0]) () fun y2 => R.few [] fun y3 => (match [y2, (.lst y3)] with | [y4, y5] => R.rng1 (.int 60) fun y6 => R.after (R.for' y6 ((y1, y4, y5) : D × D × D) fun y7 y8 => R.few [] fun y9 => R.few [(.str "stuck")] fun ya => R.call (Z1w [y0, y8.2.1]) () fun yb => R.lft (Z4y [yb]) fun yc => R.lft (repG (.lst ya) yc) fun yd => R.lft (addA y8.2.2 yd) fun ye => R.few [(.str "kept")] fun yf => R.call (Z2j [y0, y8.2.1]) () fun yg => R.lft (Z4y [yg]) fun yh => R.lft (repG (.lst yf) yh) fun yi => R.lft (addA ye yi) fun yj => R.call (Z1x [y0, y8.2.1, (.int 8)]) () fun yk => R.items yk fun yl => R.after (R.for' yl ((yj, (.lst y9)) : D × D) fun ym yn => R.call (Z14 [y0, y8.2.1, ym]) () fun yo => R.few [yo] fun yp => R.lft (Z4u yo .non) fun yq => R.lft (Z4y [yq]) fun yr => R.lft (repG (.lst yp) yr) fun ys => R.lft (addA yn.1 ys) fun yt => R.few [ym] fun yu => R.lft (isNG yo .non) fun yv => R.lft (Z4y [yv]) fun yw => R.lft (repG (.lst yu) yw) fun yx => R.lft (addA yn.2 yx) fun yy => R.ok (Step.nx ((yt, yy) : D × D))) (fun yz => R.few [] fun y10 => R.lft (neG yz.2 (.lst y10)) fun y11 => R.asB y11 fun y12 => if y12 then R.call1e (Z18 [y8.1, yz.2]) () fun y13 y14 => R.call (Zy [y0, y8.2.1, y13]) () fun y15 => R.ok (Step.nx ((y14, y15, yz.1) : D × D × D)) else R.ok (Step.nx ((y8.1, y8.2.1, yz.1) : D × D × D))) fun y16 y17 => R.ok (Step.rt y16 ((y8.1, y8.2.1, y17.1) : D × D × D))) (fun y18 => R.ok (y18.2.2, [y18.1])) fun y19 y1a => R.ok (y19, [y1a.1]) | _ => R.no)
  | _ => .no
theorem sc__law_words_met : FnScope ["_law_case_here", "_law_pool_here", "_law_state", "_law_words", "_law_turn", "_law_some", "_law_move", "_law_word"] ["_law_case_here", "_law_pool_here"] (defScope Z2y) := fsc
theorem Z7e (F : Fu K "_law_words_met" Z2y f fd) (T : Txt P w K mg) (d__law_after : Dfn P w K mg base 5 "_law_after" (mk0 3) none (Lp Zy)) (d__law_fault : Dfn P w K mg base 3 "_law_fault" (mk0 3) none (Lp Z14)) (d__law_first : Dfn P w K mg base 1 "_law_first" (mk0 1) none (Lp Z2l)) (d__law_kept : Dfn P w K mg base 3 "_law_kept" (mk0 2) none (Lp Z2j)) (d__law_moves : Dfn P w K mg base 3 "_law_moves" (mk0 3) none (Lp Z1x)) (d__law_pick : Dfn P w K mg base 2 "_law_pick" (some [] :: mk0 1) none (L1e Z18)) (d__law_stuck : Dfn P w K mg base 2 "_law_stuck" (mk0 2) none (Lp Z1w)) : FnG P w K mg base (L2.CX P w) 6 f fd ["_law_case_here", "_law_pool_here"] (spM K [none, some []] none (Lm Z1f)) := by
  refine okM F sc__law_words_met rfl (fun _ A _ s H E hr hG te tk po ds hl => ?_)
  match ds, hl with
  | [y0, y1], _ => exact AB.eq (Zlk 2 3 () (Z1 (Zw d__law_first Zcl (Z1 (av 0 rfl) Z2) (hm hr) hG tk (by rfl)) (Z1 (Zx (Z1e Z2)) Z2)) wu (fun y2 y3 => (Z3y (S := D × D × D) (own := [4]) (fun (y4 : D × D × D) => [.fz y0, .ow (some 1) y4.1 [], .fz y4.2.1, .fz y4.2.2, .un, .un, .un, .un]) ((y1, y2, y3) : D × D × D) (fun y5 => [y5.1]) () (Ziq T.z_range (by rfl) (Z0 Z5)) wu (.k (.k (.k (.k (.d (.d (.d (.d .nil)))))))) (fun y5 => (.d (.k (.d (.d (.d (.d (.d (.d .nil))))))))) (fun y6 y7 => (Z6 4 (Z2x [.fz y0, .ow (some 1) y6.1 [], .fz y6.2.1, .fz y6.2.2, .fz y7, .un, .un, .un] rfl (Zf 5 () (Zx (Z1e Z2)) wu (fun y8 => (Zf 3 () (a_op Zd Ze (Z0 (a_op Zd Ze (Z0 (av 3 rfl)) (Z0 (Zx (Ze6 (Z1e (Z1 Z4 Z2)) (Z0 (Z38 call_int1 Z6g boot_int T.z_int (by rfl) (Z3 (Z0 (Zw d__law_stuck Zci (Z1 (av 0 rfl) (Z1 (av 2 rfl) Z2)) (hm hr) hG tk (by rfl))) Z7)))))))) (Z0 (Zx (Ze6 (Z1e (Z1 Z4 Z2)) (Z0 (Z38 call_int1 Z6g boot_int T.z_int (by rfl) (Z3 (Z0 (Zw d__law_kept Zdi (Z1 (av 0 rfl) (Z1 (av 2 rfl) Z2)) (hm hr) hG tk (by rfl))) Z7))))))) wu (fun y9 => (Z3y (S := D × D) (own := [6]) (fun (ya : D × D) => [.fz y0, .ow (some 1) y6.1 [], .fz y6.2.1, .fz ya.1, .fz y7, .fz ya.2, .un, .un]) ((y9, y8) : D × D) (fun yb => ((y6.1, y6.2.1, yb.1) : D × D × D)) () (Zl (Zw d__law_moves Zcj (Z1 (av 0 rfl) (Z1 (av 2 rfl) (Z1 Z5 Z2))) (hm hr) hG tk (by rfl))) wu (.k (.k (.k (.k (.k (.k (.d (.d .nil)))))))) (fun yb => (.k (.k (.k (.k (.d (.d (.d (.d .nil))))))))) (fun yc yd => (Z6 6 (Zf 7 () (Zw d__law_fault Zcm (Z1 (av 0 rfl) (Z1 (av 2 rfl) (Z1 (av 6 rfl) Z2))) (hm hr) hG tk (by rfl)) wu (fun ye => (Z2x [.fz y0, .ow (some 1) y6.1 [], .fz y6.2.1, .fz yc.1, .fz y7, .fz yc.2, .fz yd, .fz ye] rfl (Zf 3 () (a_op Zd Ze (Z0 (av 3 rfl)) (Z0 (Zx (Ze6 (Z1e (Z1 (av 7 rfl) Z2)) (Z0 (Z38 call_int1 Z6g boot_int T.z_int (by rfl) (Z3 (Z0 (Z2o op_notN Z5f (Z0 (av 7 rfl)) (Z0 Z5o) (nomark _))) Z7))))))) wu (fun yf => (Zf 5 () (a_op Zd Ze (Z0 (av 5 rfl)) (Z0 (Zx (Ze6 (Z1e (Z1 (av 6 rfl) Z2)) (Z0 (Z38 call_int1 Z6g boot_int T.z_int (by rfl) (Z3 (Z0 (Z2o op_isN Zl2 (Z0 (av 7 rfl)) (Z0 Z5o) (nomark _))) Z7))))))) wu (fun yg => (Zr ((yf, yg) : D × D) (.k (.k (.k (.k (.k (.k (.d (.d .nil)))))))) rfl)) sc__law_words_met.nd lo)) sc__law_words_met.nd lo))) sc__law_words_met.nd lo) sc__law_words_met.nd lo)) (fun yh => (Z4s () (Z9 (Z50 hr.units) Z7j (Z0 (av 5 rfl)) (Z0 (Zx (Z1e Z2))) (nomark _)) wu (Z7u (tag := (some 1)) (fs := []) (w := y6.1) 1 2 rfl () (Zno d__law_after Zcn (Z1p (AE.lift (av 0 rfl)) (fun yi => (Z1p (AE.lift (av 2 rfl)) (fun yj => (Z1p (Z3n d__law_pick Z6o (Z1p (AE.lift (av 5 rfl)) (fun yk => (AA.lift Z2))) rfl (hm hr) hG tk (by rfl)) (fun yl => (AA.lift Z2))))))) (hm hr) hG tk (by rfl)) (fun _ => wu) (fun ym yn => (Zr ((yn, ym, yh.1) : D × D × D) (.k (.k (.k (.k (.d (.d (.d (.d .nil)))))))) rfl)) sc__law_words_met.nd lo) (Zr ((y6.1, y6.2.1, yh.1) : D × D × D) (.k (.k (.k (.k (.d (.d (.d (.d .nil)))))))) rfl))) rfl po rfl rfl)) sc__law_words_met.nd lo)) sc__law_words_met.nd lo)) sc__law_words_met.nd lo)) (fun yo => (Za () [yo.1] (av 3 rfl) wu (.d (.k (.d (.d (.d (.d (.d (.d .nil)))))))) rfl)) rfl po rfl rfl)) rfl sc__law_words_met.nd) rfl
def m_law : List D -> R Unit D
  | [a0] => R.bind (R.few [] fun y0 => R.lft (neG a0 (.lst y0)) fun x2 => R.asB x2 fun b3 => if b3 then R.lft (ixG a0 (.int 0)) fun x4 => R.ok x4 else R.ok (.int 7)) fun x5 => R.call (Z2i [x5, (.int 5600), (.int 60)]) () fun x1 => R.call1e (Z1y [x1]) () fun x8 w9 => R.tup2 x8 fun y1 y2 => R.call1e (Zq [w9]) () fun y3 y4 => R.call (Z3l [y1, y2, y3]) () fun y5 => Zi Z70 "faults" y5 fun y6 => R.call (y6 [y5]) () fun y7 => R.call (Z10 [y1, y2, y3]) () fun y8 => R.call (Z35 [y8]) () fun y9 => R.asI (.int 1) fun ya => R.asI (.int 4) fun yb => R.lft (slG a0 (some ya) (some yb)) fun yc => R.few [(.int 5)] fun yd => R.lft (lenG [a0]) fun ye => R.lft (ltG ye (.int 2)) fun yf => R.lft (Z4y [yf]) fun yg => R.lft (repG (.lst yd) yg) fun yh => R.lft (addA yc yh) fun yi => R.enumA yi fun yj => R.after (R.for' yj () fun yk yl => R.tup2 yk fun ym yn => R.lft (addA (.int 5610) ym) fun yo => R.call (Z2i [yn, yo, (.int 70)]) () fun yp => R.callL (Z1f [y9, yp]) () fun yq => R.items yq fun yr => R.few yr fun ys => R.lst (R.fmapS (fun yt _ => R.lft (Z39 yt y7) fun yu => R.asB yu fun yv => if yv then R.ok (some yt, ()) else R.ok (none, ())) ys ()) fun yw _ => R.few [] fun yx => R.lft (neG yw (.lst yx)) fun yy => R.asB yy fun yz => if yz then R.ok (Step.rt (.bl false) ()) else R.ok (Step.nx ())) (fun y10 => R.ok (.bl true)) fun y11 y12 => R.ok y11
  | _ => .no
theorem sc_law : FnScope ["_law_script", "_law_pool_here", "_law_opens", "_law_asks", "_law_pulls_here", "_law_words", "_law_case_here", "_law_k", "_law_cell", "_law_met", "_law_word"] ["_law_script"] (defScope Zbt) := fsc
theorem Zp2 (F : Fu K "law" Zbt f fd) (T : Txt P w K mg) (d_m_faults : ∀ C mf, Z70 C = some mf -> MethC P w K mg base 8 C "faults" none mf) (d_Plain_of : StatC P w K mg base 4 "Plain" "of" none Z3l) (d__law_case : Dfn P w K mg base 3 "_law_case" (mk0 1) none (Lp Z35)) (d__law_kinds : Dfn P w K mg base 3 "_law_kinds" (some [] :: mk0 0) none (L1e Z1y)) (d__law_plain_plan : Dfn P w K mg base 2 "_law_plain_plan" (mk0 3) none (Lp Z10)) (d__law_pool : Dfn P w K mg base 2 "_law_pool" (mk0 3) (some []) (Lp Z2i)) (d__law_pull_words : Dfn P w K mg base 2 "_law_pull_words" (some [] :: mk0 0) none (L1e Zq)) (d__law_words_met : Dfn P w K mg base 6 "_law_words_met" [none, some []] none (Lm Z1f)) : FnG P w K mg base (L2.CX P w) 9 f fd ["_law_script"] (spM K (mk0 1) none (Lp m_law)) := by
  refine okP F sc_law rfl (fun _ A _ s H E hr hG te tk po ds hl => ?_)
  match ds, hl with
  | [a0], _ => exact AB.eq (Z4h 1 () (Ziu d__law_pool Z8z (Z1 (a_if (Z9 (Z50 hr.units) Z7j (Z0 (av 0 rfl)) (Z0 (Zx (Z1e Z2))) (nomark _)) (a_ix (Z0 (av 0 rfl)) (Z0 Z5)) Z5) (Z1 Z5 (Z1 Z5 Z2))) (hm hr) hG tk (by rfl)) wu (fun x6 => (Znt (tag := none) (fs := []) (w := x6) (own := [2, 3]) 1 rfl () (Z3n d__law_kinds Zck (AA.lift Z2) rfl (hm hr) hG tk (by rfl)) (fun _ => wu) (fun y0 w7 => (Z37 rfl (fun y1 y2 => (Z8 (Z6 2 (Z8 (Z6 3 (Z1u (Z7u (tag := none) (fs := []) (w := w7) 1 4 rfl () (Z3n d__law_pull_words Z7m (AA.lift Z2) rfl (hm hr) hG tk (by rfl)) (fun _ => wu) (fun y3 y4 => (Z2x [.fz a0, .ow none y4 [], .fz y1, .fz y2, .fz y3, .un, .un, .un, .un, .un, .un] rfl (Zf 5 () (Z15 d_m_faults (Zqr d_Plain_of (Z1c (Z1 (av 2 rfl) (Z1 (av 3 rfl) (Z1 (av 4 rfl) Z2)))) (hm hr) hG tk (by rfl)) Z6i (hm hr) hG tk) wu (fun y5 => (Zf 6 () (Zw d__law_case Zdl (Z1 (Zw d__law_plain_plan Z7n (Z1 (av 2 rfl) (Z1 (av 3 rfl) (Z1 (av 4 rfl) Z2))) (hm hr) hG tk (by rfl)) Z2) (hm hr) hG tk (by rfl)) wu (fun y6 => (Z3y (S := Unit) (own := [7, 8]) (fun (y7 : Unit) => [.fz a0, .ow none y4 [], .fz y1, .fz y2, .fz y3, .fz y5, .fz y6, .un, .un, .un, .un]) () (fun y8 => ()) () (Z69 T.z_enumerate (by rfl) (a_op Zd Ze (Z0 (a_sl (Z0 (av 0 rfl)) (Z2n (Z0 Z5)) (Z2n (Z0 Z5)))) (Z0 (Zx (Ze6 (Z1e (Z1 Z5 Z2)) (Z0 (Z38 call_int1 Z6g boot_int T.z_int (by rfl) (Z3 (Z0 (Z2o op_lt Zc8 (Z0 (Zh call_len Z3b PySem.boot_len T.z_len (by rfl) (Z3 (Z0 (av 0 rfl)) Z7))) (Z0 Z5) (nomark _))) Z7)))))))) wu (.k (.k (.k (.k (.k (.k (.k (.d (.d (.d (.d .nil))))))))))) (fun y8 => wu) (fun y9 ya => (Z37 rfl (fun yb yc => (Z8 (Z6 7 (Z8 (Z6 8 (Z1u (Z2x [.fz a0, .ow none y4 [], .fz y1, .fz y2, .fz y3, .fz y5, .fz y6, .fz yb, .fz yc, .un, .un] rfl (Zf 9 () (Znv d__law_words_met (av 6 rfl) (Ziu d__law_pool Z8z (Z1 (av 8 rfl) (Z1 (a_op Zd Ze (Z0 Z5) (Z0 (av 7 rfl))) (Z1 Z5 Z2))) (hm hr) hG tk (by rfl)) (hm hr) hG tk (by rfl)) wu (fun yd => (Z4s () (Z9 (Z50 hr.units) Z7j (Z0 (Zx (a_lc [("_law_word", 10)] (Zl (av 9 rfl)) (fun _ _ ye => (Z6 10 (Z6h () (fun _ => (Z9 (Z2f (u65 hr)) Z2g (Z0 (av 10 rfl)) (Z0 (av 5 rfl)) (by rfl))) (fun _ => (av 10 rfl)) (.k (.k (.k (.k (.k (.k (.k (.k (.k (.k (.d .nil))))))))))) rfl) sc_law.nd lo)) rfl sc_law.nd (blkOk_by (N := ["_law_script", "_law_pool_here", "_law_opens", "_law_asks", "_law_pulls_here", "_law_words", "_law_case_here", "_law_k", "_law_cell", "_law_met", "_law_word"]) (sc := defScope Zbt) (by decide +kernel)) (Z1d rfl Z3e)))) (Z0 (Zx (Z1e Z2))) (nomark _)) wu (Za () () a_bl wu (.k (.k (.k (.k (.k (.k (.k (.d (.d (.d (.d .nil))))))))))) rfl) (Zr () (.k (.k (.k (.k (.k (.k (.k (.d (.d (.d (.d .nil))))))))))) rfl))) sc_law.nd lo))) sc_law.nd lo)) sc_law.nd lo))))) (fun yf => (Za () () a_bl wu wu rfl)) rfl po rfl rfl)) sc_law.nd lo)) sc_law.nd lo))) sc_law.nd lo)) sc_law.nd lo)) sc_law.nd lo))))))) sc_law.nd lo) rfl
end
end
end K56
namespace K56
namespace Q
open PySem L2 DM PL PW
theorem Zi0 : gPULLS = .tup (eight.map wd) := id rfl
theorem Zq0 : gOUT = wd .out := id rfl
theorem Zi1 : gMARK = wd .mark := id rfl
theorem Zlc : gWAIT = wd .wait := id rfl
theorem Zdq : gEMPTY = wd .empty := id rfl
theorem Zld : gDOWN = wd .down := id rfl
theorem Zi3 : gLET = wd .let_ := id rfl
theorem Zi2 : gLOCK = wd .lock := id rfl
theorem Zaz : gUNLOCK = wd .unlock := id rfl
theorem Zhz : gTOUCHED = wd .touched := id rfl
theorem Zpz : gUSED = wd .used := id rfl
theorem Zn5 : gSTUCK = wd .stuck := id rfl
theorem Zq1 : gKEPT = wd .kept := id rfl
def P (o a : Wd) (ws : List Wd) : D := .obj "Plain" [("own_opens", wd o), ("own_asks", wd a), ("own_pulls", .tup (ws.map wd))]
section
variable {β γ : Type} (o a : Wd) (ws : List Wd)
theorem Zds (k : D -> R β γ) : Z3d Z1z "own_opens" (P o a ws) k = k (wd o) := id rfl
theorem Zlf (k : D -> R β γ) : Z3d Z23 "own_asks" (P o a ws) k = k (wd a) := id rfl
theorem Z5x (k : D -> R β γ) : Z3d Zb "own_pulls" (P o a ws) k = k (.tup (ws.map wd)) := id rfl
theorem Z4w (k : (List D -> R Unit D) -> R β γ) : Zi Zn "ahead" (P o a ws) k = k Z2r := id rfl
theorem Z65 (k : (List D -> R Unit D) -> R β γ) : Zi Z1l "behind" (P o a ws) k = k Z2a := id rfl
theorem Zhi (k : (List D -> R Unit D) -> R β γ) : Zi Z5s "gaps" (P o a ws) k = k Z3a := id rfl
theorem Z9v (k : (List D -> R Unit D) -> R β γ) : Zi Z3j "openings" (P o a ws) k = k Z1h := id rfl
theorem Zpa (k : (List D -> R Unit D) -> R β γ) : Zi Z16 "uses_behind_let" (P o a ws) k = k Zj := id rfl
theorem Zjn (k : (List D -> R Unit D) -> R β γ) : Zi Z5g "is_stuck" (P o a ws) k = k Z1i := id rfl
theorem Zfu (k : (List D -> R Unit D) -> R β γ) : Zi Z45 "is_touched" (P o a ws) k = k Z17 := id rfl
theorem Zms (k : (List D -> R Unit D) -> R β γ) : Zi Z64 "is_used" (P o a ws) k = k Z1s := id rfl
end
theorem Ziv (ws : List Wd) (hg : Good ws) : Z2h [.tup (ws.map wd)] = .ok .non := by
  unfold Z2h
  simp only
  rw [Z99, Zb0, after_nx]
  intro d hd
  obtain ⟨i, x, hx, rfl⟩ := Zf6 hd
  rw [List.getElem?_map] at hx
  cases hi : ws[i]? with
  | none => rw [hi] at hx; cases hx
  | some w =>
    rw [hi] at hx
    obtain rfl : wd w = x := Option.some.inj hx
    have hm : w ∈ eight := hg.mem w (List.mem_of_getElem? hi)
    obtain ⟨s1, s2, s3⟩ := Good.split (x := w) (Zhy hi ▸ hg)
    simp only [tup2_tup, isW, lft_some, asB_bl, Bool.not_true, Bool.false_eq_true, if_false, Zi0, niWt, hm, decide_true, asI_int, PL.sl_tup, Zfb, ← List.map_take, inWt, s1, decide_false, bind_ok, Zaz, Zi2, eqW, ite_ok]
    by_cases q : w = .unlock
    · have q2 : ¬ w = Wd.lock := by rw [q]; decide
      simp [q, s2 q]
    · by_cases q2 : w = .lock
      · simp [q2, s3 q2]
      · simp [q, q2]
theorem of_ok {o a : Wd} {ws : List Wd} (ho : o ∈ [Wd.bare, .tried, .locked]) (ha : a ∈ [Wd.in_, .ahead, .none, .locked]) (hg : Good ws) (hl : ws.length ≤ 100) : Z3l [wd o, wd a, .lst (ws.map wd)] = .ok (P o a ws) := by
  have e1 : Z25 (.obj "Plain" [] :: (wd o :: (wd a :: (ws.map wd ++ [])))) = Z1t [.obj "Plain" [], wd o, wd a, .tup (ws.map wd)] := by
    unfold Z25 Zbk
    rw [if_pos]
    · simp
    · simp [few, szl]; omega
  have e2 : kOPENS.contains o.s = true := by
    simp only [List.mem_cons, List.not_mem_nil, or_false] at ho
    rcases ho with rfl | rfl | rfl <;> decide +kernel
  have e3 : kASKS.contains a.s = true := by
    simp only [List.mem_cons, List.not_mem_nil, or_false] at ha
    rcases ha with rfl | rfl | rfl | rfl <;> decide +kernel
  have e4 : ∀ (x : Wd) (k : Str -> R Unit Bool), R.asS (wd x) k = k x.s := fun _ _ => rfl
  have e5 : Z1t [.obj "Plain" [], wd o, wd a, .tup (ws.map wd)] = .ok (.non, P o a ws) := by
    unfold Z1t
    simp only [isW, lft_some, asB_bl, Bool.not_true, Bool.false_eq_true, if_false, e4, e2, e3, bind_ok, Ziv ws hg, call_ok, notN_non]
    rfl
  unfold Z3l
  simp only [list_lst, lft_some, asQ_lst, e1, e5, make_ok]
theorem Zna : Zo = PL.m_draw := rfl
theorem Zmd : Z18 = PL.m_pick := rfl
theorem kinds_ok {p : D} (hp : Pool p) : ∃ (o a : Wd) (p' : D), Z1y [p] = .ok (.lst [wd o, wd a], p') ∧ o ∈ [Wd.bare, .tried, .locked] ∧ a ∈ [Wd.in_, .ahead, .none, .locked] ∧ Pool p' := by
  obtain ⟨x, p1, e1, h1, hp1⟩ := Zd6 (xs := [wd .bare, wd .tried, wd .locked]) hp (by decide)
  obtain ⟨y, p2, e2, h2, hp2⟩ := Zd6 (xs := [wd .in_, wd .ahead, wd .none, wd .locked, wd .in_]) hp1 (by decide)
  have k1 : ∃ o ∈ [Wd.bare, .tried, .locked], x = wd o := by
    simp only [List.mem_cons, List.not_mem_nil, or_false] at h1
    rcases h1 with rfl | rfl | rfl <;> exact ⟨_, by decide, rfl⟩
  have k2 : ∃ o ∈ [Wd.in_, .ahead, .none, .locked], y = wd o := by
    simp only [List.mem_cons, List.not_mem_nil, or_false] at h2
    rcases h2 with rfl | rfl | rfl | rfl | rfl <;> exact ⟨_, by decide, rfl⟩
  obtain ⟨o, ho, rfl⟩ := k1
  obtain ⟨a, ha, rfl⟩ := k2
  refine ⟨o, a, p2, ?_, ho, ha, hp2⟩
  unfold Z1y
  simp only [Zmd, Zks, Zln, Z6s, w_in, Zgf, Znz, few3, few5, few2, e1, e2, call1e_ok]
theorem words_ok {p : D} (hp : Pool p) : ∃ (ws : List Wd) (p' : D), Zq [p] = .ok (.lst (ws.map wd), p') ∧ Good ws ∧ ws.length ≤ 8 ∧ Pool p' := by
  unfold Zq
  simp only [Zr1, Zo0, w_wait, w_empty, Zo3, Zr2, few0, few6, items_lst, Zna]
  generalize hf : (fun (d684 : D) (s683 : D × D) => R.join (fun (s697 : D × D) => R.ok (Step.nx ((s697.1, s697.2) : D × D))) fun k696 => _) = f
  obtain ⟨s', e, q, ws, rfl, hq, hs⟩ := Zf4 (I := fun i (s : D × D) => ∃ (q : D) (ws : List Wd), s = (q, .lst (ws.map wd)) ∧ Pool q ∧ Six i ws) (ds := six.map wd) (s := ((p, .lst []) : D × D)) (f := f) 0 ⟨p, [], rfl, hp, List.nodup_nil, by simp, by simp⟩ (fun i d hd s ⟨q, ws, es, hq, hs⟩ => by
    subst es
    rw [Nat.zero_add] at hs ⊢
    rw [List.getElem?_map] at hd
    cases hi : six[i]? with
    | none => rw [hi] at hd; cases hd
    | some w =>
      rw [hi] at hd
      obtain rfl : wd w = d := Option.some.inj hd
      have hl : ws.length ≤ 100 := by
        have := hs.len
        have : i < six.length := (List.getElem?_eq_some_iff.mp hi).1
        have : six.length = 6 := rfl
        omega
      obtain ⟨v1, p1, e1, _, hp1⟩ := Z5y (m := 6) hq (by decide)
      have hm : mulG (.int 2) (.int (if decide (w = Wd.empty) = true then 1 else 0)) = some (.int (2 * (if decide (w = Wd.empty) = true then 1 else 0))) := mul_int (Or.inl (by omega))
      rw [← hf]
      simp only [join_eq, e1, call1e_ok, eqW, lft_some, int_bl, hm, gt_int, asB_bl]
      generalize decide (2 * (if decide (w = Wd.empty) = true then (1 : Int) else 0) < (v1 : Int)) = b
      cases b
      · exact ⟨_, rfl, p1, ws, rfl, hp1, hs.up⟩
      · obtain ⟨v2, p2, e2, _, hp2⟩ := Z5y (m := 3) hp1 (by decide)
        simp only [e2, call1e_ok, gt_int, lft_some, asB_bl, len_lst, List.length_map, add_int, if_true]
        generalize decide (0 < (v2 : Int)) = b
        cases b
        · obtain ⟨v3, p3, e3, _, hp3⟩ := Z5y (m := (ws.length : Int) + 1) hp2 (by omega)
          simp only [Bool.false_eq_true, if_false, e3, call1e_ok, bind2_ok]
          rw [asI_int, Zpq ws v3 w hl]
          exact ⟨_, rfl, p3, _, rfl, hp3, Zgs hs hi⟩
        · simp only [if_true, bind2_ok]
          rw [asI_int, Zpq ws ws.length w hl]
          exact ⟨_, rfl, p2, _, rfl, hp2, Zgs hs hi⟩)
  have e' : R.for' [wd Wd.out, wd Wd.mark, wd Wd.wait, wd Wd.empty, wd Wd.down, wd Wd.let_] (p, D.lst []) f = R.ok (Step.nx (q, D.lst (List.map wd ws))) := e
  have h6 : ws.length ≤ 6 := hs.len
  rw [e', after_nx]
  obtain ⟨v1, p1, e1, _, hp1⟩ := Z5y (m := 2) hq (by decide)
  simp only [e1, call1e_ok, eq_int, lft_some, asB_bl]
  generalize decide ((v1 : Int) = 0) = b
  cases b
  case true => exact ⟨ws, p1, rfl, hs.good, by omega, hp1⟩
  obtain ⟨i, p2, e2, hi, hp2⟩ := Z5y (m := (ws.length : Int) + 1) hp1 (by omega)
  obtain ⟨v3, p3, e3, h3, hp3⟩ := Z5y (m := (ws.length : Int) - i + 1) hp2 (by omega)
  obtain ⟨v4, p4, e4, _, hp4⟩ := Z5y (m := 4) hp3 (by decide)
  have ej : (i : Int) + v3 = ((i + v3 : Nat) : Int) := by omega
  have hj : i + v3 ≤ ws.length := by omega
  simp only [Bool.false_eq_true, if_false, len_lst, List.length_map, lft_some, add_int, sub_int, e2, call1e_ok, e3, Zj0, w_lock, few1, e4, gt_int, int_bl, Zfp, asI_int, ej, sl_lst, Zfb, Zli, Zih]
  generalize decide (0 < (v4 : Int)) = b
  have eA : ws.take i ++ (ws.take (i + v3)).drop i ++ ws.drop (i + v3) = ws := by
    conv => rhs; rw [← List.take_append_drop (i + v3) ws]
    congr 1
    conv => rhs; rw [← List.take_append_drop i (ws.take (i + v3))]
    rw [List.take_take, Nat.min_eq_left (by omega)]
  refine ⟨ws.take i ++ [.lock] ++ (ws.take (i + v3)).drop i ++ (if b = true then [.unlock] else []) ++ ws.drop (i + v3), p4, ?_, Zjp (by rw [eA]; exact hs.nd) (by rw [eA]; exact fun w hw => List.mem_of_mem_take (hs.mem w hw)) (by cases b <;> simp), ?_, hp4⟩
  · rw [add_lst, if_pos (by simp; omega), lft_some, add_lst, if_pos (by simp; omega), lft_some, add_lst, if_pos (by cases b <;> simp <;> omega), lft_some, add_lst, if_pos (by cases b <;> simp <;> omega), lft_some]
    cases b <;> simp [List.map_take, List.map_drop]
  · cases b <;> simp <;> omega
theorem Z24 (o a : Wd) (ws : List Wd) (w : Wd) (hw : w ∈ eight) : Z2r [P o a ws, wd w] = .ok (.int (ws.idxOf w)) := by
  unfold Z2r Z28
  simp only [isW, lft_some, asB_bl, Zi0, niWt, hw, decide_true, Bool.not_true, Bool.false_eq_true, if_false, bind_ok, call_ok, Z5x, inWt]
  by_cases h : w ∈ ws
  · simp only [h, decide_true, if_true, asQ_tup, encW.idx_t (by decide) h, lft_some, bind_ok]
  · simp only [h, decide_false, Bool.false_eq_true, if_false, len_tup, List.length_map, lft_some, bind_ok, List.idxOf_eq_length h]
theorem Z4f (o a : Wd) (ws : List Wd) (w : Wd) (hw : w ∈ eight) : Z2a [P o a ws, wd w] = .ok (.int (ws.idxOf w + 1)) := by
  unfold Z2a
  simp only [Z4w, Z24 o a ws w hw, call_ok, add_int, lft_some]
theorem Zdp (o a : Wd) (ws : List Wd) : Z3a [P o a ws] = .ok (.lst ((gapsF ws).map pr)) := by
  unfold Z3a gapsF
  simp only [Z5x, len_tup, lft_some, Zi2, niWt, asB_bl, Z4w, Z24 o a ws _ h_lock, call_ok, Zaz, inWt, Z65, Z4f o a ws _ h_unlock, few_eq, List.length_cons, List.length_nil, add_lst, List.length_map]
  by_cases h : Wd.lock ∈ ws <;> by_cases h2 : Wd.unlock ∈ ws <;> simp [h, h2, pr]
theorem for_first {β : Type} {α : Type} {e : α -> D} {f : D -> Unit -> R β (Step Unit)} {t : α -> Bool} {v : α -> D} : ∀ {xs : List α}, (∀ x ∈ xs, f (e x) () = .ok (if t x then .rt (v x) () else .nx ())) -> R.for' (xs.map e) () f = .ok (match xs.find? t with | some x => .rt (v x) () | none => .nx ())
  | [], _ => rfl
  | x :: xs, h => by
    rw [List.map_cons, for_cons, h x List.mem_cons_self, List.find?_cons]
    cases q : t x
    · simp only [Bool.false_eq_true, if_false, turn_nx]
      exact for_first fun y hy => h y (List.mem_cons_of_mem _ hy)
    · simp only [if_true, turn_rt]
theorem bools_map (bs : List Bool) : boolsOf (bs.map D.bl) = some bs := by
  induction bs with
  | nil => rfl
  | cons b bs ih => rw [List.map_cons]; unfold boolsOf; rw [ih]; rfl
theorem any_bls (bs : List Bool) : anyG [.lst (bs.map D.bl)] = some (.bl (bs.any id)) := by
  show Option.map _ (boolsOf (bs.map D.bl)) = _
  rw [bools_map]; rfl
theorem maxN (a b : Nat) : (if (b : Int) > (a : Int) then (b : Int) else (a : Int)) = ((max a b : Nat) : Int) := by omega
theorem maxN' (a b : Nat) : (if a < b then (b : Int) else (a : Int)) = ((max a b : Nat) : Int) := by omega
theorem minN (a b : Nat) : (if (b : Int) < (a : Int) then (b : Int) else (a : Int)) = ((min a b : Nat) : Int) := by omega
theorem Z8o (o a : Wd) (ws : List Wd) : Z1h [P o a ws] = .ok (.lst ((openF o ws).map pr)) := by
  unfold Z1h openF
  simp only [Z5x, len_tup, lft_some, Zdq, niWt, asB_bl, Z4w, Z24 o a ws _ Zay, call_ok, few_eq, List.length_cons, List.length_nil, List.length_map, join_eq, Zds, Z6s, eqW]
  by_cases h : Wd.empty ∈ ws
  · simp only [h, decide_true, Bool.not_true, Bool.false_eq_true, if_false, if_true]
    by_cases ho : o = .locked
    · simp only [ho, decide_true, if_true, Zhi, Zdp, call_ok, items_lst]
      rw [for_first (t := openT ws) (v := fun p => .lst ([(0, ws.idxOf .empty), (max p.1 (ws.idxOf .empty + 1), ws.length)].map pr))]
      · cases (gapsF ws).find? (openT ws) <;> simp [pr]
      · intro p _
        have e1 : ((ws.idxOf Wd.empty : Nat) : Int) + 1 = ((ws.idxOf Wd.empty + 1 : Nat) : Int) := by omega
        simp only [pr, tup2_tup, Z65, Z4f _ a ws _ Zay, call_ok, max_int, e1, maxN, lft_some, Z4w, Zq0, Zi3, Z24 _ a ws _ h_out, Z24 _ a ws _ h_let, le_int, min_int, minN, asB_bl, asQ_lst, ite_ok, bind_ok, few_eq, Int.ofNat_le]
        unfold openT
        by_cases q1 : p.1 ≤ ws.idxOf .out <;> by_cases q2 : max p.1 (ws.idxOf .empty + 1) ≤ min p.2 (ws.idxOf .let_) <;> simp [q1, q2, pr]
    · have e1 : ((ws.idxOf Wd.empty : Nat) : Int) + 1 = ((ws.idxOf Wd.empty + 1 : Nat) : Int) := by omega
      simp only [ho, decide_false, Bool.false_eq_true, if_false, Z65, Z4f _ a ws _ Zay, call_ok, Z4w, Zi3, Z24 _ a ws _ h_let, e1, le_int, Int.ofNat_le, lft_some, asB_bl, asL_lst, few_eq, push_eq]
      by_cases q : ws.idxOf .empty + 1 ≤ ws.idxOf .let_ <;> simp [q, pr]
  · simp [h, pr]
theorem Zkt (o a : Wd) (ws : List Wd) : Zj [P o a ws] = .ok (.bl (ublF ws)) := by
  unfold Zj
  simp only [few_eq, List.length_cons, List.length_nil, items_tup, Zi1, Zlc, Zdq, Zi3, Z4w, Z5x, Z24 _ a ws _ h_let, call_ok]
  rw [if_pos (by decide), if_pos (by decide), show [wd .mark, wd .wait, wd .empty] = [Wd.mark, .wait, .empty].map wd from rfl, Z3t (g := fun w => some (.bl (decide (w ∈ ws) && decide (ws.idxOf .let_ < ws.idxOf w))))]
  · simp only [lst_ok]
    rw [show ([Wd.mark, Wd.wait, Wd.empty].filterMap fun w => some (D.bl (decide (w ∈ ws) && decide (ws.idxOf .let_ < ws.idxOf w)))) = ([Wd.mark, .wait, .empty].map fun w => decide (w ∈ ws) && decide (ws.idxOf .let_ < ws.idxOf w)).map D.bl from rfl, any_bls, lft_some, List.any_map]
    rfl
  · intro w hw
    have hw8 : w ∈ eight := by
      simp only [List.mem_cons, List.not_mem_nil, or_false] at hw
      rcases hw with rfl | rfl | rfl <;> decide
    simp only [inWt, lft_some, asB_bl, Z24 o a ws w hw8, call_ok, gt_int]
    by_cases h : w ∈ ws <;> simp [h]
theorem find_any {α : Type} (t : α -> Bool) (xs : List α) : (xs.find? t).isSome = xs.any t := by
  induction xs with
  | nil => rfl
  | cons x xs ih => rw [List.find?_cons, List.any_cons]; cases t x <;> simp [ih]
theorem Zfj (o a : Wd) (ws : List Wd) (lo hi : Nat) : Z17 [P o a ws, .int lo, .int hi] = .ok (.bl (touchF a ws lo hi)) := by
  have e1 : ∀ w, ((ws.idxOf w : Nat) : Int) + 1 = ((ws.idxOf w + 1 : Nat) : Int) := by intro w; omega
  unfold Z17 touchF
  simp only [Zlf, Z6s, Zgf, w_in, eqW, neW, lft_some, asB_bl, Zhi, Zdp, call_ok, items_lst]
  by_cases h : a = .locked
  · simp only [h, decide_true, if_true]
    rw [for_first (t := gapT ws lo hi) (v := fun _ => .bl true)]
    · rw [← find_any]
      cases (gapsF ws).find? (gapT ws lo hi) <;> rfl
    · intro p _
      simp only [pr, tup2_tup, max_int, maxN, lft_some, Z4w, Z65, Zi1, Zld, Z24 o _ ws _ h_mark, Z4f o _ ws _ h_down, e1, call_ok, min_int, minN, le_int, Int.ofNat_le, asB_bl, ite_ok, bind_ok]
      unfold gapT
      by_cases q1 : max lo p.1 ≤ min p.2 (ws.idxOf .mark) <;> by_cases q2 : max (max lo p.1) (ws.idxOf .down + 1) ≤ min p.2 hi <;> simp [q1, q2]
  · simp only [h, decide_false, Bool.false_eq_true, if_false, Z4w, Z65, Zi1, Zlc, Z24 o a ws _ h_mark, Z24 o a ws _ Zlb, Z4f o a ws _ Zlb, e1, call_ok, lft_some, gt_int, asB_bl, ite_ok, bind_ok, max_int, gt_iff_lt, maxN', Z5x, len_tup, List.length_map, few_eq, List.length_cons, List.length_nil, items_tup, Int.ofNat_lt]
    by_cases h2 : a = .ahead ∧ ws.idxOf .mark < lo
    · simp [h2.1, h2.2]
    · have : (if decide (a = Wd.ahead) = true then decide (ws.idxOf Wd.mark < lo) else false) = false := by
        by_cases q : a = .ahead
        · have : ¬ ws.idxOf Wd.mark < lo := fun z => h2 ⟨q, z⟩
          simp [q, this]
        · simp [q]
      rw [this, if_neg h2]
      simp only [Bool.false_eq_true, if_false]
      rw [if_pos (by decide), if_pos (by decide), if_pos (by decide), show [D.tup [.int lo, .int ((ws.idxOf Wd.wait : Nat) : Int)], D.tup [.int ((max lo (ws.idxOf Wd.wait + 1) : Nat) : Int), .int ws.length]] = [(lo, ws.idxOf Wd.wait), (max lo (ws.idxOf .wait + 1), ws.length)].map pr from rfl, for_first (t := strT a ws hi) (v := fun _ => .bl true)]
      · rw [← find_any]
        cases [(lo, ws.idxOf Wd.wait), (max lo (ws.idxOf .wait + 1), ws.length)].find? (strT a ws hi) <;> rfl
      · intro p _
        simp only [pr, tup2_tup, le_int, lft_some, asB_bl, Zld, Z4f o a ws _ h_down, e1, call_ok, max_int, maxN, min_int, minN, Int.ofNat_le]
        unfold strT
        by_cases q0 : a = .in_ <;> by_cases q1 : p.1 ≤ ws.idxOf .mark <;> by_cases q2 : max p.1 (ws.idxOf .down + 1) ≤ min p.2 hi <;> simp [q0, q1, q2]
theorem Zlp (o a : Wd) (ws : List Wd) (hg : (gapsF ws).length ≤ 2) : Z1s [P o a ws] = .ok (.bl (usedF o ws)) := by
  have e1 : ∀ w, ((ws.idxOf w : Nat) : Int) + 1 = ((ws.idxOf w + 1 : Nat) : Int) := by intro w; omega
  unfold Z1s usedF
  simp only [Z5x, Zi3, niWt, lft_some, asB_bl, Zpa, Zkt, call_ok, Zds, Z6s, Zks, eqW, Zhi, Zdp, items_lst]
  by_cases h : Wd.let_ ∈ ws
  · simp only [h, decide_true, Bool.not_true, Bool.false_eq_true, if_false, Bool.true_and]
    cases hu : ublF ws
    · simp only [Bool.false_eq_true, if_false, Bool.false_or]
      by_cases ho : o = .locked
      · simp only [ho, decide_true, if_true]
        rw [few_eq, if_pos (by rw [List.length_map]; omega), Z3t (g := fun p => some (.bl (decide (p.1 ≤ ws.idxOf .out) && decide (ws.idxOf .let_ + 1 ≤ p.2))))]
        · simp only [lst_ok]
          rw [show ((gapsF ws).filterMap fun p => some (D.bl (decide (p.1 ≤ ws.idxOf .out) && decide (ws.idxOf .let_ + 1 ≤ p.2)))) = ((gapsF ws).map fun p => decide (p.1 ≤ ws.idxOf .out) && decide (ws.idxOf .let_ + 1 ≤ p.2)).map D.bl by rw [List.map_map, ← List.filterMap_eq_map]; rfl, any_bls, lft_some, List.any_map]
          rfl
        · intro p _
          simp only [pr, tup2_tup, Z4w, Z65, Zq0, Z24 _ a ws _ h_out, Z4f _ a ws _ h_let, e1, call_ok, le_int, ge_int, lft_some, asB_bl, Int.ofNat_le]
          by_cases q1 : p.1 ≤ ws.idxOf .out <;> simp [q1]
      · simp [ho]
    · simp
  · simp [h]
theorem Zj4 (o a : Wd) (ws : List Wd) : Z1i [P o a ws] = .ok (.bl (stuckF o a ws)) := by
  unfold Z1i stuckF
  have nl : Z39 (wd .locked) (.tup [wd o, wd a]) = some (.bl (!decide (Wd.locked ∈ [o, a]))) := niWt .locked [o, a]
  simp only [Z5x, Zlf, Zds, Zi2, Zaz, Zdq, niWt, inWt, lft_some, asB_bl, Z4w, Z24 o a ws _ h_lock, Z24 o a ws _ h_unlock, Z24 o a ws _ Zay, call_ok, Z6s, eqW, lt_int, Int.ofNat_lt, few_eq, List.length_cons, List.length_nil, nl, Zpa, Zkt, Z9v, Z8o, len_lst, List.length_map, eq_int]
  have e2 : decide (((openF o ws).length : Int) = 2) = decide ((openF o ws).length = 2) := by rw [Bool.eq_iff_iff]; simp only [decide_eq_true_eq]; omega
  rw [e2]
  by_cases h : Wd.lock ∈ ws
  · by_cases h2 : a = .locked <;> by_cases h3 : Wd.empty ∈ ws <;> by_cases h4 : ws.idxOf Wd.lock < ws.idxOf .empty <;> by_cases h5 : ws.idxOf .empty < ws.idxOf Wd.unlock <;> by_cases h6 : Wd.unlock ∈ ws <;> by_cases h7 : o = .locked <;> cases h8 : ublF ws <;> simp [h, h2, h3, h4, h5, h6, h7, h8, eq_comm (a := Wd.locked) (b := o), eq_comm (a := Wd.locked) (b := a)]
  · simp [h]
theorem faults_ok (o a : Wd) (ws : List Wd) : Z29 [P o a ws] = .ok (.lst ((fw (touchA o a ws) (usedF o ws) (stuckF o a ws) (!decide (.let_ ∈ ws))).map wd)) := by
  unfold Z29
  simp only [Z9v, Z8o, call_ok, items_lst]
  rw [few_eq, if_pos (by rw [List.length_map]; have := open_len o ws; omega), Z3t (g := fun p => some (.bl (touchF a ws p.1 p.2)))]
  · simp only [lst_ok]
    rw [show ((openF o ws).filterMap fun p => some (D.bl (touchF a ws p.1 p.2))) = ((openF o ws).map fun p => touchF a ws p.1 p.2).map D.bl by rw [List.map_map, ← List.filterMap_eq_map]; rfl, any_bls, lft_some, List.any_map]
    have e : (openF o ws).any (id ∘ fun p => touchF a ws p.1 p.2) = touchA o a ws := rfl
    rw [e]
    simp only [Zms, Zlp o a ws (Zk0 ws), call_ok, Zjn, Zj4, few_eq, List.length_cons, List.length_nil, asL_lst, Z5x, Zi3, niWt, lft_some, push_eq, Zhz, Zpz, Zn5, Zq1]
    generalize touchA o a ws = t
    generalize usedF o ws = u
    generalize stuckF o a ws = s
    generalize (!decide (Wd.let_ ∈ ws)) = k
    cases t <;> cases u <;> cases s <;> cases k <;> rfl
  · intro p _
    simp only [pr, tup2_tup, Zfu, Zfj, call_ok]
end Q
end K56
namespace K56
open PySem DM PL RR SC
open L2 hiding It St PS
theorem Zqj {x : It} (h : x.good = true) : eqG (.str x.w.s) (.str "ask") = some (.bl x.isAsk) := by
  cases x with
  | s x => cases x <;> first | rfl | cases h
  | ask n ys => rfl
theorem Zpn {x : It} (h : x.isAsk = true) : ixG x.d (.int 2) = some (.tup (x.outs.map snD)) := by
  cases x with
  | s x => cases h
  | ask n ys => rfl
theorem good_outs {x : It} (h : x.good = true) : ∀ y ∈ x.outs, Z56 y = true := by
  cases x with
  | s x => intro y hy; cases hy
  | ask n ys =>
    simp only [It.good, Bool.and_eq_true, List.all_eq_true] at h
    exact h.2
def offs : Nat -> List It -> List Nat
  | _, [] => []
  | n, x :: r => n :: offs (n + x.size) r
theorem Z6z : ∀ (xs : List It) (n : Nat), (offs n xs).length = xs.length
  | [], _ => rfl
  | x :: r, n => by rw [offs, List.length_cons, List.length_cons, Z6z r]
theorem Zel : ∀ (xs ys : List It) (n : Nat), offs n (xs ++ ys) = offs n xs ++ offs (n + sizes xs) ys
  | [], ys, n => by simp [offs, sizes]
  | x :: r, ys, n => by rw [List.cons_append, offs, offs, Zel r ys, Z3i, List.cons_append, Nat.add_assoc]
theorem Zh8 (pre post : List It) : (offs 0 (pre ++ post) ++ [sizes (pre ++ post)])[pre.length]? = some (sizes pre) := by
  rw [Zel, List.append_assoc, List.getElem?_append_right (by rw [Z6z]; omega), Z6z, Nat.sub_self]
  cases post with
  | nil => simp [offs]
  | cons y r => simp [offs]
def natD (n : Nat) : D := .int (n : Nat)
theorem at_g {α : Type} (e : α -> D) {xs : List α} {i : Nat} {x : α} (h : xs[i]? = some x) : atI (xs.map e) (i : Int) = some (e x) := Zil (by rw [List.getElem?_map, h]; rfl)
section
variable {w : D} {xs : List It} {ss : List Nat} {i a b e : Nat} {x : It}
theorem Zb8 {β α γ : Type} (m : R β α) (k : α -> R β γ) : R.bind m k = R.bind (R.bind m R.ok) k := by cases m <;> rfl
end
theorem pck {α : Type} {e : α -> D} {p : D} {xs : List α} (hp : Pool p) (hm : 0 < xs.length) : ∃ (x : α) (p' : D), Z18 [p, .lst (xs.map e)] = .ok (e x, p') ∧ x ∈ xs ∧ Pool p' := Zjd hp hm
def nmL (ws : List Nm) : D := .lst (ws.map fun n => .str n.s)
theorem Zm2 {x : It} (hx : x.good = true) {β γ : Type} (kk : D -> R β γ) : (R.bind (R.asI (.int 2) fun i948 => R.lft (slG x.d (some i948) none) fun x949 => R.lft (truD x949) fun b951 => if b951 then R.lft (ixG x.d (.int 2)) fun x947 => R.ok x947 else R.ok x949) fun x950 => R.lft (lenG [x950]) fun x952 => kk x952 : R β γ) = kk (.int (x.outs.length : Nat)) := by
  cases x with
  | s x => cases x <;> first | rfl | cases hx
  | ask n ys =>
    show kk (.int ((ys.map snD).length : Nat)) = kk (.int (ys.length : Nat))
    rw [List.length_map]
def flD (p : PS) : D := .lst [.bl p.h, .bl p.u, .bl p.l]
theorem Zb3 {x : It} (hx : x.good = true) (p : PS) : Z1b [flD p, x.d] = .ok (flD (p.goes x.w)) := by
  unfold Z1b
  simp only [Z9x hx, lft_some]
  obtain ⟨h, u, l⟩ := p
  cases x.w <;> cases h <;> cases u <;> cases l <;> rfl
theorem Zmh {x : It} (hx : x.good = true) {β γ : Type} (k : D -> R β γ) : (R.bind (R.lft (ixG x.d (.int 0)) fun x1154 => R.lft (eqG x1154 (.str "ask")) fun x1155 => R.asB x1155 fun b1156 => if b1156 then R.lft (ixG x.d (.int 2)) fun x1157 => R.ok x1157 else R.few [] fun l1198 => R.ok (.tup l1198)) k) = k (.tup (x.outs.map snD)) := by
  simp only [Z9x hx, lft_some, Zqj hx, asB_bl, few0]
  cases q : x.isAsk
  · have h0 : x.outs = [] := by cases x with | s x => rfl | ask n ys => cases q
    simp only [Bool.false_eq_true, if_false, bind_ok, h0]; rfl
  · simp only [if_true, Zpn q, lft_some, bind_ok]
theorem Zmv {xs : List It} (hg : ∀ x ∈ xs, x.good = true) (hs : sizes xs ≤ 1000) : Z20 [.tup (xs.map It.d)] = .ok (.lst ((laI (sizes xs) .z 0 xs).map laD)) := by
  have hlen := Z72 xs
  unfold Z20
  simp only [items_tup]
  have key1 : ∀ (r : List It) (n : Nat) (acc : List Nat) (f : D -> D × D -> R Unit (DM.Step (D × D))), acc.length + r.length ≤ 1000 -> (∀ x ∈ r, x.good = true) ->
      (∀ (x : It) (n : Nat) (acc : List Nat), acc.length ≤ 1000 -> x.good = true -> f x.d (.lst (acc.map natD), .int n) = .ok (.nx (.lst ((acc ++ [n]).map natD), .int ((n + x.size : Nat) : Int)))) ->
      R.for' (r.map It.d) (.lst (acc.map natD), .int n) f = .ok (.nx (.lst ((acc ++ offs n r).map natD), .int ((n + sizes r : Nat) : Int))) := by
    intro r
    induction r with
    | nil => intro n acc f _ _ _; simp [offs, sizes]
    | cons x r ih =>
      intro n acc f hl hg hf
      rw [List.length_cons] at hl
      rw [List.map_cons, for_cons, hf x n acc (by omega) (hg x List.mem_cons_self), turn_nx, ih _ _ f (by simp; omega) (fun y hy => hg y (List.mem_cons_of_mem _ hy)) hf, offs, Z3i, List.append_assoc, Nat.add_assoc]
      rfl
  rw [show ((D.lst [], D.int 0) : D × D) = (.lst (([] : List Nat).map natD), .int (0 : Nat)) from rfl, key1 xs 0 [] _ (by simp; omega) hg (fun x n acc hl hx => by
    simp only [asL_lst]
    rw [push_eq, if_pos (by rw [List.length_map]; omega)]
    simp only [add_int, lft_some]
    rw [Zm2 hx, add_int, lft_some, List.map_append, Z46, show ((n : Int) + 1 + x.outs.length) = ((n + (1 + x.outs.length) : Nat) : Int) by omega]
    rfl)]
  rw [after_nx, List.nil_append, Nat.zero_add, few3, Z99, Zb5]
  simp only
  have inner : ∀ (N n e : Nat) (ys : List Sn) (k : Nat) (acc : List La) (p : PS) (f : D -> D × D -> R Unit (DM.Step (D × D))), k + ys.length = N -> acc.length + ys.length ≤ 1000 -> (∀ y ∈ ys, Z56 y = true) ->
      (∀ (i : Nat) (y : Sn) (acc : List La) (p : PS), acc.length ≤ 1000 -> Z56 y = true -> i < N -> f (.tup [.int i, snD y]) (.lst (acc.map laD), flD p) = .ok (.nx (.lst ((acc ++ [((snI y, if i + 1 = N then e else n + 2 + i, if i + 1 = N then e else n + 2 + i, p) : La)]).map laD), flD (p.goes (snI y).w)))) ->
      R.for' (Z7q k (ys.map snD)) (.lst (acc.map laD), flD p) f = .ok (.nx (.lst ((acc ++ laS n e p k ys).map laD), flD (endS p ys))) := by
    intro N n e ys
    induction ys with
    | nil => intro k acc p f _ _ _ _; simp [laS, endS, Z7q]
    | cons y r ih =>
      intro k acc p f hk hl hy hf
      rw [List.length_cons] at hk hl
      rw [List.map_cons, Z7q, for_cons, hf k y acc p (by omega) (hy y List.mem_cons_self) (by omega), turn_nx, ih (k + 1) _ _ f (by omega) (by simp; omega) (fun z hz => hy z (List.mem_cons_of_mem _ hz)) hf, laS, endS, List.append_assoc]
      have e1 : (k + 1 = N) = (r = []) := by
        apply propext
        cases r with
        | nil => simp at hk ⊢; omega
        | cons z r => simp at hk ⊢; omega
      simp only [e1]
      rfl
  have outer : ∀ (post pre : List It) (acc : List La) (p : PS) (f : D -> D × D -> R Unit (DM.Step (D × D))), xs = pre ++ post -> acc.length + sizes post ≤ 1000 ->
      (∀ (pre post : List It) (x : It) (acc : List La) (p : PS), xs = pre ++ x :: post -> acc.length + x.size ≤ 1000 -> x.good = true -> f (.tup [.int (pre.length : Nat), x.d]) (.lst (acc.map laD), flD p) = .ok (.nx (.lst ((acc ++ (x, sizes pre + x.size, if x.outs = [] then sizes xs else sizes pre + 1, p) :: laS (sizes pre) (sizes xs) (p.goes x.w) 0 x.outs).map laD), flD (p.goes x.w)))) ->
      R.for' (Z7q pre.length (post.map It.d)) (.lst (acc.map laD), flD p) f = .ok (.nx (.lst ((acc ++ laI (sizes xs) p (sizes pre) post).map laD), flD (endI p post))) := by
    intro post
    induction post with
    | nil => intro pre acc p f _ _ _; simp [laI, endI, Z7q]
    | cons x r ih =>
      intro pre acc p f hx hl hf
      rw [Z3i] at hl
      have hgx : x.good = true := hg x (by rw [hx]; simp)
      have h := ih (pre ++ [x]) (acc ++ (x, sizes pre + x.size, if x.outs = [] then sizes xs else sizes pre + 1, p) :: laS (sizes pre) (sizes xs) (p.goes x.w) 0 x.outs) (p.goes x.w) f (by rw [hx]; simp) (by rw [List.length_append, List.length_cons, Zau]; have := Z46 x; omega) hf
      rw [List.length_append, List.length_singleton, Zbo, show sizes [x] = x.size by simp [sizes]] at h
      rw [List.map_cons, Z7q, for_cons, hf pre r x acc p hx (by omega) hgx, turn_nx, h, laI, endI, List.append_assoc]
  have outer0 : ∀ f : D -> D × D -> R Unit (DM.Step (D × D)),
      (∀ (pre post : List It) (x : It) (acc : List La) (p : PS), xs = pre ++ x :: post -> acc.length + x.size ≤ 1000 -> x.good = true -> f (.tup [.int (pre.length : Nat), x.d]) (.lst (acc.map laD), flD p) = .ok (.nx (.lst ((acc ++ (x, sizes pre + x.size, if x.outs = [] then sizes xs else sizes pre + 1, p) :: laS (sizes pre) (sizes xs) (p.goes x.w) 0 x.outs).map laD), flD (p.goes x.w)))) ->
      R.for' (Z7q 0 (xs.map It.d)) (.lst (([] : List La).map laD), flD .z) f = .ok (.nx (.lst ((laI (sizes xs) .z 0 xs).map laD), flD (endI .z xs))) := fun f hf => outer xs [] [] .z f rfl (by simpa using hs) hf
  have e0 : ∀ ys : List Sn, neG (.tup (ys.map snD)) (.tup []) = some (.bl (!decide (ys = []))) := fun ys => encN.tup.neG (by decide) ys []
  rw [show (D.lst [.bl false, .bl false, .bl false]) = flD .z from rfl, show (D.lst []) = .lst (([] : List La).map laD) from rfl, outer0 _ (fun pre post x acc p hx hl hgx => by
    have ha : (offs 0 xs ++ [sizes xs])[pre.length]? = some (sizes pre) := by rw [hx]; exact Zh8 pre (x :: post)
    have hb : (offs 0 xs ++ [sizes xs])[pre.length + 1]? = some (sizes pre + x.size) := by
      have := Zh8 (pre ++ [x]) post
      rw [List.append_assoc, List.singleton_append, ← hx, Zbo, List.length_append] at this
      simpa [sizes] using this
    have ha2 : (offs 0 xs)[pre.length]? = some (sizes pre) := by
      have : pre.length < (offs 0 xs).length := by rw [Z6z, hx]; simp
      rw [List.getElem?_append_left this] at ha
      exact ha
    have hz := Z46 x
    simp only [tup2_tup, few1]
    rw [show [D.int (sizes xs : Nat)] = [sizes xs].map natD from rfl, add_lst, if_pos (by simp [Z6z]; omega), lft_some, ← List.map_append, add_int, lft_some, PL.ix_lst, show (pre.length : Int) + 1 = ((pre.length + 1 : Nat) : Int) by omega, at_g natD hb, lft_some, Zmh hgx]
    have eb : (R.bind (R.few [] fun l1197 => R.lft (neG (.tup (x.outs.map snD)) (.tup l1197)) fun x1160 => R.asB x1160 fun b1161 => if b1161 then R.lft (ixG (.lst ((offs 0 xs).map natD)) (.int (pre.length : Nat))) fun x1162 => R.lft (addA x1162 (.int 1)) fun x1163 => R.ok x1163 else R.ok (.int (sizes xs : Nat))) R.ok : R Unit D) = .ok (.int ((if x.outs = [] then sizes xs else sizes pre + 1 : Nat) : Int)) := by
      simp only [few0, e0, lft_some, asB_bl, PL.ix_lst, at_g natD ha2]
      by_cases q : x.outs = []
      · simp only [q, decide_true, Bool.not_true, Bool.false_eq_true, if_false, bind_ok, if_true]
      · simp only [q, decide_false, Bool.not_false, if_true, if_false, natD, add_int, lft_some, bind_ok]
        rfl
    rw [Zb8, eb, bind_ok, asL_lst, few3]
    have ea : addA (.lst [x.d, natD (sizes pre + x.size), .int ((if x.outs = [] then sizes xs else sizes pre + 1 : Nat) : Int)]) (flD p) = some (laD (x, sizes pre + x.size, if x.outs = [] then sizes xs else sizes pre + 1, p)) := by
      unfold flD
      rw [add_lst, if_pos (by simp)]
      rfl
    rw [ea, lft_some, push_eq, if_pos (by rw [List.length_map]; omega), Zb3 hgx, call_ok, Z99, Zb5, ← List.map_singleton (f := laD), ← List.map_append]
    rw [inner x.outs.length (sizes pre) (sizes xs) x.outs 0 _ _ _ (by omega) (by simp; omega) (good_outs hgx) (fun i y acc p hl hy hi => by
      have hyg := short_good hy
      simp only [tup2_tup, add_int, lft_some, len_tup, List.length_map, lt_int, asB_bl, asL_lst]
      have eb2 : (R.bind (if decide ((i : Int) + 1 < x.outs.length) = true then R.lft (ixG (.lst ((offs 0 xs).map natD)) (.int (pre.length : Nat))) fun x1182 => R.lft (addA x1182 (.int 2)) fun x1183 => R.lft (addA x1183 (.int i)) fun x1184 => R.ok x1184 else R.ok (.int (sizes xs : Nat))) R.ok : R Unit D) = .ok (.int ((if i + 1 = x.outs.length then sizes xs else sizes pre + 2 + i : Nat) : Int)) := by
        simp only [PL.ix_lst, at_g natD ha2, lft_some, natD, add_int]
        by_cases q : i + 1 = x.outs.length
        · rw [if_neg (by rw [decide_eq_true_eq]; omega), if_pos q]; rfl
        · rw [if_pos (decide_eq_true (by omega)), if_neg q]; rfl
      rw [Zb8, eb2, bind_ok, few3]
      have ea2 : addA (.lst [snD y, .int ((if i + 1 = x.outs.length then sizes xs else sizes pre + 2 + i : Nat) : Int), .int ((if i + 1 = x.outs.length then sizes xs else sizes pre + 2 + i : Nat) : Int)]) (flD p) = some (laD (snI y, if i + 1 = x.outs.length then sizes xs else sizes pre + 2 + i, if i + 1 = x.outs.length then sizes xs else sizes pre + 2 + i, p)) := by
        unfold flD
        rw [add_lst, if_pos (by simp)]
        unfold laD
        simp only [snI_d]
        rfl
      rw [ea2, lft_some, push_eq, if_pos (by rw [List.length_map]; omega), show snD y = (snI y).d by simp, Zb3 hyg, call_ok, ← List.map_singleton (f := laD), ← List.map_append])]
    simp only [after_nx, List.append_assoc, List.singleton_append])]
  rfl
def rowT (xs : List It) : D := .tup (xs.map It.d)
theorem Z4d {β γ : Type} (ds : List D) (k : List D -> R β γ) (h : ds.length ≤ 1000) : R.few ds k = k ds := by
  unfold R.few
  rw [if_pos (by simp [DM.few, szl]; omega)]
def opOf (xs : List It) : Nat := (openF xs).1
def Zrq (c : Case) : D := rowD "HandRow" (opOf c.hs) c.hs
def Zqz (xs : List It) : D := rowD "WorkRow" 0 xs
theorem enc_nat : Enc natD 0 := ⟨fun a => enc_int.ok a, fun a => enc_int.dep a, fun a b => by
  have := enc_int.eq (a : Int) (b : Int)
  rw [show decide ((a : Int) = b) = decide (a = b) by rw [Bool.eq_iff_iff, decide_eq_true_eq, decide_eq_true_eq]; omega] at this
  exact this⟩
def HW (C : Str) : Prop := C = "HandRow" ∨ C = "WorkRow"
theorem hwH : HW "HandRow" := .inl rfl
theorem hwW : HW "WorkRow" := .inr rfl
def stWs : List Str := ["out", "mark", "wait", "empty", "down", "let", "bar", "forget", "idle", "lock", "unlock", "x"]
theorem Zj7 (x : St) : x.word ∈ stWs := by
  unfold stWs
  cases x <;> simp only [St.word, List.mem_cons, true_or, or_true]
theorem Zlx : ∀ w ∈ stWs, PyData.strOk w = true := by decide +kernel
theorem Zix (x : St) : (pd (D.str x.word)).canLay0 = true := by
  simp only [pd, PyData.canLay0]
  exact Zlx _ (Zj7 x)
theorem Zgt (xs : List St) : shp (.lst (xs.map fun x => .str x.word)) = true := by
  refine Z7x ?_ ?_
  · simp only [pd, PyData.canLay0, Z3z]
    exact Z7t fun d hd => by obtain ⟨x, _, rfl⟩ := List.mem_map.mp hd; exact Zix x
  · simp only [pd, PyData.depth, Z3z]
    have : PyData.depthAll (xs.map fun x => pd (.str x.word)) ≤ 0 := Z9z fun d hd => by obtain ⟨x, _, rfl⟩ := List.mem_map.mp hd; simp [pd, PyData.depth]
    simp only [pd] at this
    omega
theorem Zge {x y : St} (h : ((x.word == y.word) = (x == y))) : PyData.eqv (pd (.str x.word)) (pd (.str y.word)) = (x == y) := by
  simp only [pd, PyData.eqv]; exact h
theorem Zlj {xs : List St} {y : St} (hy : shp (.str y.word) = true) (h : ∀ x : St, PyData.eqv (pd (.str x.word)) (pd (.str y.word)) = (x == y)) : cntG (.lst (xs.map fun x => .str x.word)) [.str y.word] = some (.int (xs.count y : Nat)) := by
  show (if (shp (.str y.word) && shp (.lst (xs.map fun x => .str x.word))) = true then _ else _) = _
  rw [hy, Zgt, Bool.and_self, if_pos rfl, Z3z, List.countP_map]
  congr 3
  unfold List.count
  exact List.countP_congr fun x _ => by rw [Function.comp, h]
theorem Zk7 (xs : List St) : cntG (.lst (xs.map fun x => .str x.word)) [.str "lock"] = some (.int (xs.count .lock : Nat)) := Zlj (y := .lock) (by decide +kernel) (fun x => Zge (by cases x <;> rfl))
theorem Zg3 (xs : List St) : cntG (.lst (xs.map fun x => .str x.word)) [.str "unlock"] = some (.int (xs.count .unlock : Nat)) := Zlj (y := .unlock) (by decide +kernel) (fun x => Zge (by cases x <;> rfl))
theorem Ziw {f : D -> Unit -> R Unit (Option D × Unit)} {xs : List St} (hg : ∀ x ∈ xs, x.good = true) (hf : ∀ x : St, x.good = true -> f x.d () = .ok (some (.str x.word), ())) : R.fmapS f (xs.map St.d) () = .ok (xs.map fun x => .str x.word, ()) := by
  rw [Z3t (g := fun x => some (.str x.word)) fun x hx => hf x (hg x hx)]
  simp
def Z8w (c : Case) : D := nmL c.names
def jobD (j : Bool × Option Nat) : D := .tup [.bl j.1, optD j.2]
def stD (s : Sta) : D := .tup [.int (s.came : Nat), .tup (s.ins.map natD), .tup (s.jobs.map jobD), .int (s.done : Nat), .bl s.leak]
def mvD : Mv -> D
  | .come => .tup [.str "come"]
  | .go p => .tup [.str "go", .int (p : Nat)]
  | .begin n => .tup [.str "begin", .str n.s]
  | .run n => .tup [.str "run", .str n.s]
  | .step => .tup [.str "step"]
section
variable {β γ : Type} {c : Case} {s : Sta}
theorem t5 (k : D -> D -> D -> D -> D -> R β γ) : R.tup5 (stD s) k = k (.int (s.came : Nat)) (.tup (s.ins.map natD)) (.tup (s.jobs.map jobD)) (.int (s.done : Nat)) (.bl s.leak) := id rfl
theorem Zgc : ixG (stD s) (.int 1) = some (.tup (s.ins.map natD)) := id rfl
theorem Ze9 : ixG (stD s) (.int 2) = some (.tup (s.jobs.map jobD)) := id rfl
theorem Zbg : ixG (stD s) (.int 3) = some (.int (s.done : Nat)) := id rfl
theorem Zgb : ixG (stD s) (.int 4) = some (.bl s.leak) := id rfl
theorem j_0 (j : Bool × Option Nat) : ixG (jobD j) (.int 0) = some (.bl j.1) := id rfl
theorem j_1 (j : Bool × Option Nat) : ixG (jobD j) (.int 1) = some (optD j.2) := id rfl
theorem Zdn {α : Type} (e : α -> D) {xs : List α} {i : Nat} {x : α} (h : xs[i]? = some x) : ixG (.lst (xs.map e)) (.int (i : Nat)) = some (e x) := by rw [PL.ix_lst]; exact at_g e h
theorem Z9w {α : Type} (e : α -> D) {xs : List α} {i : Nat} {x : α} (h : xs[i]? = some x) : ixG (.tup (xs.map e)) (.int (i : Nat)) = some (e x) := by rw [PL.ix_tup]; exact at_g e h
theorem Zg9 {α α' : Type} (f : α -> D) (g : α' -> D) : ∀ (xs : List α) (ys : List α'), zipD (xs.map f) (ys.map g) = (xs.zip ys).map fun q => .tup [f q.1, g q.2]
  | [], _ => rfl
  | _ :: _, [] => rfl
  | x :: xs, y :: ys => by
    have := Zg9 f g xs ys
    unfold zipD at this ⊢
    rw [List.map_cons, List.map_cons, List.zipWith_cons_cons, this, List.zip_cons_cons, List.map_cons]
theorem Ze8 {α α' : Type} (f f' : α -> D) (g : α' -> D) : ∀ (xs : List α) (ys : List α'), zipD3 (xs.map f) (xs.map f') (ys.map g) = (xs.zip ys).map fun q => .tup [f q.1, f' q.1, g q.2]
  | [], _ => rfl
  | _ :: _, [] => rfl
  | x :: xs, y :: ys => by rw [List.map_cons, List.map_cons, List.map_cons, zipD3, Ze8 f f' g xs ys, List.zip_cons_cons, List.map_cons]
end
structure VS (c : Case) (ms : List Nm) (s : Sta) : Prop where
  ok : CaseOk c ms
  v : Val c s
section
variable {c : Case} {ms : List Nm} {s : Sta}
theorem VS.few (h : VS c ms s) : s.ins.length ≤ 8 := by have := h.v.ins; have := h.v.came; omega
theorem VS.jfew (h : VS c ms s) : (c.ws.zip s.jobs).length ≤ 2 := by have := Zkr h.ok; rw [List.length_zip]; omega
theorem notN (o : Option Nat) : Z4u (optD o) .non = some (.bl o.isSome) := Zjj o
theorem Zfz {n : Nm} (hn : n ∈ c.names) : idxG (Z8w c) [.str n.s] = some (.int (c.names.idxOf n : Nat)) := enc_nm.idx_l (by decide) hn
theorem Zhu (h : VS c ms s) {n : Nm} (hn : n ∈ c.names) : ixG (.tup (s.jobs.map jobD)) (.int (c.names.idxOf n : Nat)) = some (jobD (Z2s c s n)) := by
  have hi := List.idxOf_lt_length_of_mem hn
  have hj : c.names.idxOf n < s.jobs.length := by rw [h.v.jl]; rwa [Case.names, List.length_map] at hi
  refine Z9w jobD ?_
  unfold Z2s
  rw [List.getD_eq_getElem?_getD, List.getElem?_eq_getElem hj]
  rfl
theorem Z6n {β γ : Type} (k : List D -> R β γ) : R.asQ (Z8w c) k = k (c.names.map fun n => .str n.s) := id rfl
theorem w_lock (w : Wd) : eqG (.str w.s) gLOCK = some (.bl (decide (w = .lock))) := by cases w <;> rfl
theorem w_wait (w : Wd) : eqG (.str w.s) gWAIT = some (.bl false) := by cases w <;> rfl
theorem w_empty (w : Wd) : eqG (.str w.s) gEMPTY = some (.bl false) := by cases w <;> rfl
theorem Zo2 (w : Wd) : eqG (.str w.s) (.str "idle") = some (.bl false) := by cases w <;> rfl
theorem isN (o : Option Nat) : isNG (optD o) .non = some (.bl o.isNone) := Zn0 o
end
theorem Zle {α β σ : Type} {e : α -> D} {st : List Mv -> σ} {g : α -> Option Mv} {f : D -> σ -> R β (DM.Step σ)} : ∀ (xs : List α) (acc : List Mv), acc.length + xs.length ≤ 1000 -> (∀ x ∈ xs, ∀ acc : List Mv, acc.length ≤ 999 -> f (e x) (st acc) = .ok (.nx (st (acc ++ (g x).toList)))) -> R.for' (xs.map e) (st acc) f = .ok (.nx (st (acc ++ xs.filterMap g)))
  | [], acc, _, _ => by rw [List.filterMap_nil, List.append_nil]; rfl
  | x :: xs, acc, hl, hf => by
    rw [List.length_cons] at hl
    have hx : (g x).toList.length ≤ 1 := by cases g x <;> simp
    rw [List.map_cons, for_cons, hf x List.mem_cons_self acc (by omega), turn_nx, Zle xs _ (by rw [List.length_append]; omega) fun y hy => hf y (List.mem_cons_of_mem _ hy), List.append_assoc, List.filterMap_cons]
    cases g x <;> rfl
theorem Z98 {α β : Type} (p : α -> Bool) (f : α -> β) : ∀ xs : List α, (xs.filter p).map f = xs.filterMap fun x => if p x = true then some (f x) else none
  | [] => rfl
  | x :: xs => by
    rw [List.filter_cons, List.filterMap_cons]
    cases q : p x
    · simp only [Bool.false_eq_true, if_false]; exact Z98 p f xs
    · simp only [if_true, List.map_cons]; rw [Z98 p f xs]
theorem Z67 (ns : List Nat) : ns.map natD = (ns.map fun n : Nat => (n : Int)).map D.int := by rw [List.map_map]; rfl
theorem Zj9 {ns : List Nat} (h : ns.Pairwise (· ≤ ·)) (hl : ns.length < 64) : Z9s (.tup (ns.map natD)) = some (.lst ((nubN ns).map natD)) := by
  unfold Z9s
  simp only
  rw [Z67, ints_map, Option.bind_some, if_pos (by rw [List.length_map]; exact hl), Z67 (nubN ns)]
  congr 3
  refine (Zbn ?_ fun k => ?_).symm
  · exact List.pairwise_map.mpr ((Zde h).imp fun h => by omega)
  · simp only [List.mem_map, mem_nubN]
theorem Zaa {β ω : Type} {acc : List Mv} (m : Mv) (h : acc.length ≤ 999) (k : D -> R β ω) : R.push (acc.map mvD) (mvD m) k = k (.lst ((acc ++ [m]).map mvD)) := by
  rw [push_eq, if_pos (by rw [List.length_map]; omega), List.map_append]; rfl
section
variable {c : Case} {ms : List Nm} {s : Sta}
theorem Zjx (h : VS c ms s) {q : (Nm × List It) × (Bool × Option Nat)} (hq : q ∈ c.ws.zip s.jobs) {p : Nat} (e : q.2.2 = some p) : p < sizes q.1.2 ∧ q.1 ∈ c.ws := by
  obtain ⟨i, e1, e2⟩ := Zga hq
  obtain ⟨q1, b, o⟩ := q
  simp only at e
  subst e
  exact ⟨h.v.job i q1 b p e1 e2, List.mem_of_getElem? e1⟩
theorem Zf0 (h : VS c ms s) {q : Nm × List It} (hq : q ∈ c.ws) : ∀ x ∈ q.2, x.good = true := (h.ok.work q hq).good
def fwD : Option Fw -> D
  | none => .non
  | some .touched => .str "touched"
  | some .used => .str "used"
theorem Zlo (w : Wd) : eqG (.str w.s) (.str "touch") = some (.bl (decide (w = .touch))) := by cases w <;> rfl
end
theorem Znp (a b : List D) (h : a.length + b.length ≤ 10000) : addA (.tup a) (.tup b) = some (.tup (a ++ b)) := by
  have e : Zdz (.tup a) (.tup b) = some (.tup (a ++ b)) := by
    unfold Zdz
    simp only
    rw [if_pos (by rw [szl]; omega)]
  show (match (none : Option D) with | some d => some d | none => (match (none : Option D) with | some d => some d | none => orG Zdz Zg5 (.tup a) (.tup b))) = _
  show (match Zdz (.tup a) (.tup b) with | some d => some d | none => Zg5 (.tup a) (.tup b)) = _
  rw [e]
section
variable {c : Case} {ms : List Nm} {s : Sta}
theorem Zo1 (w : Wd) : eqG (.str w.s) (.str "look") = some (.bl (decide (w = .look))) := by cases w <;> rfl
theorem Zr0 (w : Wd) : eqG (.str w.s) (.str "try") = some (.bl (decide (w = .try_))) := by cases w <;> rfl
theorem Zr3 (w : Wd) : eqG (.str w.s) (.str "ask") = some (.bl (decide (w = .ask))) := by cases w <;> rfl
theorem Zj6 {x : It} (hx : x.good = true) (hw : x.w = .start) : ∃ n, x = .s (.start n) := by
  cases x with
  | s x => cases x <;> first | (exact ⟨_, rfl⟩) | (cases hw; done) | (cases hx; done)
  | ask n ys => cases hw
theorem Zlv {jobs : List (Bool × Option Nat)} {x : It} (hw : x.w ≠ .start) : strt c s jobs x = jobs := by
  cases x with
  | s x => cases x <;> first | rfl | exact absurd rfl hw
  | ask n ys => rfl
theorem Zoq {β γ : Type} {ns : List Nat} {p : Nat} (hp : p ∈ ns) (k : D -> R β γ) : R.rem (ns.map natD) (natD p) k = k (.lst ((ns.erase p).map natD)) := by
  unfold R.rem
  rw [Z67, ints_map]
  simp only [natD]
  rw [if_pos (List.mem_map_of_mem (f := fun n : Nat => (n : Int)) hp)]
  congr 1
  rw [Z67]
  congr 2
  have : ∀ ns : List Nat, (ns.map fun n : Nat => (n : Int)).erase (p : Int) = (ns.erase p).map fun n : Nat => (n : Int) := fun ns => by
    induction ns with
    | nil => rfl
    | cons x xs ih =>
      rw [List.map_cons, List.erase_cons, List.erase_cons, ih]
      by_cases q : x = p
      · rw [if_pos (by simp [q]), if_pos (by simp [q])]
      · rw [if_neg (by simp; omega), if_neg (by simp [q]), List.map_cons]
  exact this ns
theorem Za6 {ns ms : List Nat} (hp : ms.Perm ns) (hs : ms.Pairwise (· ≤ ·)) : (or2 Zfn Zeb) [.lst (ns.map natD)] = some (.lst (ms.map natD)) := by
  have e : Zfn [.lst (ns.map natD)] = some (.lst (ms.map natD)) := by
    rw [Z67, Zgq, Z67 ms]
    congr 3
    exact (PySem.W.eq_sortI (hp.map _) (List.pairwise_map.mpr (hs.imp fun h => by omega))).symm
  unfold or2
  rw [e]
theorem tupG (ds : List D) : Z6t [.lst ds] = some (.tup ds) := id rfl
theorem Z8x (ds : List D) : Z8y [.tup ds] = some (.lst ds) := id rfl
theorem Zib (a b : Nat) : eqG (.int (a : Nat)) (.int (b : Nat)) = some (.bl (decide (a = b))) := by
  rw [eq_int]
  congr 2
  rw [Bool.eq_iff_iff, decide_eq_true_eq, decide_eq_true_eq]; omega
end
def Z52 (xs : List It) : D := .lst ((tab xs).map laD)
def Z2t (c : Case) : D := .dct [(.inr "hands", Z52 c.hs), (.inr "names", Z8w c), (.inr "puller", .tup (c.ps.map St.d)), (.inr "works", .lst (c.ws.map fun q => Z52 q.2))]
theorem Zpk {xs : List It} (hg : ∀ x ∈ xs, x.good = true) (hs : sizes xs ≤ 1000) : Z20 [rowT xs] = .ok (Z52 xs) := Zmv hg hs
section
variable {c : Case} {ms : List Nm} {s : Sta}
theorem Z6r : dixG (Z2t c) (.str "hands") = some (Z52 c.hs) := id rfl
theorem Z5n : dixG (Z2t c) (.str "names") = some (Z8w c) := id rfl
theorem Z5m : dixG (Z2t c) (.str "puller") = some (.tup (c.ps.map St.d)) := id rfl
theorem Z9c : dixG (Z2t c) (.str "works") = some (.lst (c.ws.map fun q => Z52 q.2)) := id rfl
theorem l_0 (z : La) : ixG (laD z) (.int 0) = some z.1.d := id rfl
theorem l_1 (z : La) : ixG (laD z) (.int 1) = some (.int (z.2.1 : Nat)) := id rfl
theorem l_3 (z : La) : ixG (laD z) (.int 3) = some (.bl z.2.2.2.h) := id rfl
theorem l_4 (z : La) : ixG (laD z) (.int 4) = some (.bl z.2.2.2.u) := id rfl
theorem l_5 (z : La) : ixG (laD z) (.int 5) = some (.bl z.2.2.2.l) := id rfl
theorem Z40 {xs : List It} {p : Nat} (h : p < sizes xs) : ixG (Z52 xs) (.int (p : Nat)) = some (laD (ent xs p)) := Zdn laD (Zdt h)
theorem Zho (h : VS c ms s) (x : St) : Zv [Z2t c, stD s, x.d] = .ok (.bl (did c s x)) := by
  unfold Zv
  simp only [Z5m, Zbg, lft_some, asI_int, PL.sl_tup, Zfa, inSt]
  rfl
theorem Zhl (h : VS c ms s) : Z1m [Z2t c, stD s] = .ok (.bl (Z43 c s)) := by
  unfold Z1m
  have h9 := h.ok.pull.len
  simp only [Z5m, Zbg, lft_some, asI_int, PL.sl_tup, Zfa, items_tup]
  rw [Z4d _ _ (by rw [List.length_map, List.length_take]; omega), Ziw (fun x hx => h.ok.pull.good x (List.mem_of_mem_take hx)) (fun x hx => by rw [sx0 hx]; rfl), lst_ok]
  simp only [asQ_lst, Zk7, Zg3, lft_some, gt_int]
  congr 2
  unfold Z43 Z9n
  rw [Bool.eq_iff_iff, decide_eq_true_eq, decide_eq_true_eq]
  omega
theorem Zhq (z : La) : (pd (laD z)).canLay0 = true := by
  have h1 := encI.ok z.1
  show (pd (.lst [z.1.d, .int (z.2.1 : Nat), .int (z.2.2.1 : Nat), .bl z.2.2.2.h, .bl z.2.2.2.u, .bl z.2.2.2.l])).canLay0 = true
  simp only [pd, pds, PyData.canLay0, PyData.canLayAll0, h1, Bool.and_true]
theorem Zhr (z : La) : (pd (laD z)).depth ≤ 5 := by
  have h1 := encI.dep z.1
  show (pd (.lst [z.1.d, .int (z.2.1 : Nat), .int (z.2.2.1 : Nat), .bl z.2.2.2.h, .bl z.2.2.2.u, .bl z.2.2.2.l])).depth ≤ 5
  simp only [pd, pds, PyData.depth, PyData.depthAll]
  omega
theorem Zee {α : Type} {e : α -> D} {n : Nat} (h1 : ∀ a, (pd (e a)).canLay0 = true) (h2 : ∀ a, (pd (e a)).depth ≤ n) (hn : n < 64) (xs : List α) : shp (.lst (xs.map e)) = true := by
  refine Z7x ?_ ?_
  · simp only [pd, PyData.canLay0, Z3z]
    exact Z7t fun d hd => by obtain ⟨x, _, rfl⟩ := List.mem_map.mp hd; exact h1 x
  · simp only [pd, PyData.depth, Z3z]
    have : PyData.depthAll (xs.map fun x => pd (e x)) ≤ n := Z9z fun d hd => by obtain ⟨x, _, rfl⟩ := List.mem_map.mp hd; exact h2 x
    omega
theorem Z7z {α : Type} {e : α -> D} {n : Nat} (h1 : ∀ a, (pd (e a)).canLay0 = true) (h2 : ∀ a, (pd (e a)).depth ≤ n) (hn : n < 64) (xs : List α) : neG (.lst (xs.map e)) (.lst []) = some (.bl (!xs.isEmpty)) := by
  rw [Zhd (Zee h1 h2 hn xs) (by decide +kernel)]
  cases xs with
  | nil => simp [pd, pds, PyData.eqv, PyData.eqvAll]
  | cons x xs => simp [pd, pds, PyData.eqv, PyData.eqvAll]
theorem eq_nil {α : Type} {e : α -> D} {n : Nat} (h1 : ∀ a, (pd (e a)).canLay0 = true) (h2 : ∀ a, (pd (e a)).depth ≤ n) (hn : n < 64) (xs : List α) : eqG (.lst (xs.map e)) (.lst []) = some (.bl xs.isEmpty) := by
  rw [Zia (Zee h1 h2 hn xs) (by decide +kernel)]
  cases xs with
  | nil => simp [pd, pds, PyData.eqv, PyData.eqvAll]
  | cons x xs => simp [pd, pds, PyData.eqv, PyData.eqvAll]
theorem Z4e {α : Type} (t : α -> Bool) (xs : List α) : (xs.filter t).isEmpty = !xs.any t := by
  induction xs with
  | nil => rfl
  | cons x xs ih =>
    rw [List.filter_cons, List.any_cons]
    cases t x
    · simpa using ih
    · simp
theorem Zdr {α β σ M : Type} {e : α -> D} {st : List M -> σ} {g : α -> Option M} {f : D -> σ -> R β (DM.Step σ)} : ∀ (xs : List α) (acc : List M), acc.length + xs.length ≤ 1000 -> (∀ x ∈ xs, ∀ acc : List M, acc.length ≤ 999 -> f (e x) (st acc) = .ok (.nx (st (acc ++ (g x).toList)))) -> R.for' (xs.map e) (st acc) f = .ok (.nx (st (acc ++ xs.filterMap g)))
  | [], acc, _, _ => by rw [List.filterMap_nil, List.append_nil]; rfl
  | x :: xs, acc, hl, hf => by
    rw [List.length_cons] at hl
    have hx : (g x).toList.length ≤ 1 := by cases g x <;> simp
    rw [List.map_cons, for_cons, hf x List.mem_cons_self acc (by omega), turn_nx, Zdr xs _ (by rw [List.length_append]; omega) fun y hy => hf y (List.mem_cons_of_mem _ hy), List.append_assoc, List.filterMap_cons]
    cases g x <;> rfl
theorem Zpe (h : VS c ms s) : Z2k [Z2t c, stD s] = .ok (.lst ((here c s).map laD)) := by
  have h8 := h.few
  have hj := h.jfew
  unfold Z2k
  simp only [Zgc, lft_some, items_tup]
  rw [Z4d _ _ (by rw [List.length_map]; omega), Z3t (e := natD) (g := fun p => some (laD (ent c.hs p))) (fun p hp => by
    have := Z40 (h.v.lt p hp)
    simp only [Z6r, lft_some, natD, this]), lst_ok, show (s.ins.filterMap fun p => some (laD (ent c.hs p))) = (s.ins.map (ent c.hs)).map laD by rw [List.map_map]; simp [Function.comp]]
  simp only [Z9c, Ze9, lft_some, asQ_lst, asQ_tup]
  rw [Zg9, Zdr (e := fun q : (Nm × List It) × (Bool × Option Nat) => D.tup [Z52 q.1.2, jobD q.2]) (st := fun acc => (.lst (acc.map laD) : D)) (g := jobE) _ _ (by rw [List.length_map]; omega) (fun q hq acc ha => by
    simp only [tup2_tup, j_1, lft_some, notN, asB_bl, asL_lst]
    unfold jobE
    cases ho : q.2.2 with
    | none => simp only [Option.isSome_none, Bool.false_eq_true, if_false, Option.map_none, Option.toList_none, List.append_nil]
    | some p =>
      have := Z40 (Zjx h hq ho).1
      simp only [Option.isSome_some, if_true, optD, this, lft_some, Option.map_some, Option.toList_some]
      rw [push_eq, if_pos (by rw [List.length_map]; omega), List.map_append]
      rfl)]
  rfl
theorem Zer (h : VS c ms s) : Z13 [Z2t c, stD s] = .ok (.bl (freed c s)) := by
  have h8 := h.few
  unfold Z13
  simp only [Zgb, lft_some, asB_bl, few1, show D.tup [.str "let"] = St.d .let_ from rfl, Zho h, call_ok, Zgc]
  have e : (if s.leak = true then R.ok true else R.ok (!did c s .let_) : R Unit Bool) = .ok (s.leak || !did c s .let_) := by cases s.leak <;> rfl
  rw [e, bind_ok]
  unfold freed
  cases hl : s.leak
  · cases hd : did c s .let_
    · rfl
    · simp only [Bool.not_true, Bool.or_self, Bool.false_eq_true, if_false, items_tup]
      rw [Z4d _ _ (by rw [List.length_map]; omega), Z22 (e := natD) (p := fun p => (ent c.hs p).2.2.2.h) (fun p hp => by
        have := Z40 (h.v.lt p hp)
        simp only [Z6r, lft_some, natD, this, l_3, asB_bl]), lst_ok, few0, eq_nil (n := 0) enc_nat.ok enc_nat.dep (by decide), lft_some, Z4e]
      rfl
  · cases did c s .let_ <;> rfl
theorem Zhj (h : VS c ms s) {x : It} (hx : x.good = true) : Z12 [Z2t c, stD s, x.d] = .ok (.bl (!Z6b c s x.w)) := by
  unfold Z12
  have a1 : ∀ w : Wd, eqG (.str w.s) (.str "lock") = some (.bl (decide (w = .lock))) := w_lock
  have a2 : ∀ w : Wd, eqG (.str w.s) (.str "wait") = some (.bl false) := w_wait
  have a3 : ∀ w : Wd, eqG (.str w.s) (.str "empty") = some (.bl false) := w_empty
  have a4 : ∀ w : Wd, eqG (.str w.s) (.str "idle") = some (.bl false) := Zo2
  have hl : (here c s).length ≤ 10 := by
    have h8 := h.few
    have hj := h.jfew
    have := List.length_filterMap_le jobE (c.ws.zip s.jobs)
    unfold here
    rw [List.length_append, List.length_map]; omega
  simp only [Z9x hx, lft_some, a1, a2, a3, a4, asB_bl, Zhl h, Zpe h, call_ok, items_lst]
  unfold Z6b
  by_cases q : x.w = Wd.lock
  · rw [if_pos (decide_eq_true q), decide_eq_true q]
    unfold free
    cases Z43 c s
    · simp only [Bool.false_eq_true, if_false]
      rw [Z4d _ _ (by rw [List.length_map]; omega), Z22 (e := laD) (p := fun z => z.2.2.2.l) (fun z _ => by simp only [l_5, lft_some, asB_bl]), lst_ok, few0, Z7z (n := 5) Zhq Zhr (by decide), lft_some, bind_ok, Z4e]
      simp
    · rfl
  · rw [if_neg (by rw [decide_eq_true_eq]; exact q), decide_eq_false q]
    simp only [Bool.false_eq_true, if_false, bind_ok]
    rfl
theorem Zmt (h : VS c ms s) {x : St} (hx : x ∈ c.ps) : Z12 [Z2t c, stD s, x.d] = .ok (.bl (!Zjr c s x)) := by
  have h8 := h.few
  have hg := h.ok.pull.good x hx
  have hn := h.ok.pull.nm x hx
  have hl : (here c s).length ≤ 10 := by
    have h8 := h.few
    have hj := h.jfew
    have := List.length_filterMap_le jobE (c.ws.zip s.jobs)
    unfold here
    rw [List.length_append, List.length_map]; omega
  have k1 : (R.few ((here c s).map laD) fun l1522 => R.lst (R.fmapS (fun d1515 _ => R.lft (ixG d1515 (.int 5)) fun x1516 => R.asB x1516 fun b1517 => if b1517 then R.ok (some d1515, ()) else R.ok (none, ())) l1522 ()) fun x1523 _ => R.few [] fun l1524 => R.lft (neG x1523 (.lst l1524)) fun x1518 => R.ok x1518 : R Unit D) = .ok (.bl ((here c s).any fun z => z.2.2.2.l)) := by
    rw [Z4d _ _ (by rw [List.length_map]; omega), Z22 (e := laD) (p := fun z => z.2.2.2.l) (fun z _ => by simp only [l_5, lft_some, asB_bl]), lst_ok, few0, Z7z (n := 5) Zhq Zhr (by decide), lft_some, Z4e, Bool.not_not]
  have k2 : (R.few ((here c s).map laD) fun l1533 => R.lst (R.fmapS (fun d1529 _ => R.lft (ixG d1529 (.int 4)) fun x1530 => R.asB x1530 fun b1531 => if b1531 then R.ok (some d1529, ()) else R.ok (none, ())) l1533 ()) fun x1534 _ => R.few [] fun l1535 => R.lft (neG x1534 (.lst l1535)) fun x1532 => R.ok x1532 : R Unit D) = .ok (.bl (under c s)) := by
    rw [Z4d _ _ (by rw [List.length_map]; omega), Z22 (e := laD) (p := fun z => z.2.2.2.u) (fun z _ => by simp only [l_4, lft_some, asB_bl]), lst_ok, few0, Z7z (n := 5) Zhq Zhr (by decide), lft_some, Z4e, Bool.not_not]
    rfl
  have k3 : (R.items (.tup (s.ins.map natD)) fun l1539 => R.few l1539 fun l1549 => R.lst (R.fmapS (fun d1540 _ => R.lft (dixG (Z2t c) (.str "hands")) fun x1541 => R.lft (ixG x1541 d1540) fun x1542 => R.lft (ixG x1542 (.int 3)) fun x1543 => R.asB x1543 fun b1544 => if b1544 then R.ok (some d1540, ()) else R.ok (none, ())) l1549 ()) fun x1550 _ => R.few [] fun l1551 => R.lft (neG x1550 (.lst l1551)) fun x1545 => R.ok x1545 : R Unit D) = .ok (.bl (held c s)) := by
    rw [items_tup, Z4d _ _ (by rw [List.length_map]; omega), Z22 (e := natD) (p := fun p => (ent c.hs p).2.2.2.h) (fun p hp => by
      have := Z40 (h.v.lt p hp)
      simp only [Z6r, lft_some, natD, this, l_3, asB_bl]), lst_ok, few0, Z7z (n := 0) enc_nat.ok enc_nat.dep (by decide), lft_some, Z4e, Bool.not_not]
    rfl
  unfold Z12
  simp only [sx0 hg, lft_some, Zhl h, Zpe h, call_ok, items_lst, Zgb, Zgc, Ze9, k1, k2, k3, asB_bl]
  cases x <;> first | rfl | (cases hg; done) | skip
  · show _ = R.ok (D.bl (!!under c s))
    rw [Bool.not_not]; rfl
  · show _ = R.ok (D.bl (!(!s.leak && !held c s)))
    cases s.leak <;> cases held c s <;> rfl
  · rename_i n
    have hn : n ∈ c.names := of_decide_eq_true hn
    have e1 : ixG (St.d (.idle n)) (.int 1) = some (.str n.s) := rfl
    simp only [Z5n, lft_some, Z6n, e1, Zfz hn, Zhu h hn, j_1, notN]
    show _ = R.ok (D.bl (!(Z2s c s n).2.isNone))
    cases (Z2s c s n).2 <;> rfl
  · show _ = R.ok (D.bl (!free c s))
    unfold free
    cases Z43 c s
    · rw [Bool.false_or, Bool.not_not]; rfl
    · rfl
end
theorem Zi6 {α β σ M : Type} {e : α -> D} {st : List M -> σ} {g : α -> Option M} {f : D -> σ -> R β (DM.Step σ)} : ∀ (xs : List α) (n : Nat) (acc : List M), acc.length + xs.length ≤ 1000 -> (∀ (i : Nat) (x : α) (acc : List M), xs[i]? = some x -> acc.length ≤ 999 -> f (.tup [.int ((n + i : Nat) : Int), e x]) (st acc) = .ok (.nx (st (acc ++ (g x).toList)))) -> R.for' (Z7q n (xs.map e)) (st acc) f = .ok (.nx (st (acc ++ xs.filterMap g)))
  | [], n, acc, _, _ => by rw [List.filterMap_nil, List.append_nil]; rfl
  | x :: xs, n, acc, hl, hf => by
    rw [List.length_cons] at hl
    have hx : (g x).toList.length ≤ 1 := by cases g x <;> simp
    have h0 := hf 0 x acc rfl (by omega)
    rw [Nat.add_zero] at h0
    rw [List.map_cons, Z7q, for_cons, h0, turn_nx, Zi6 xs (n + 1) _ (by rw [List.length_append]; omega) (fun i y acc hy ha => by
      have := hf (i + 1) y acc (by simpa using hy) ha
      rw [show n + (i + 1) = n + 1 + i by omega] at this
      exact this), List.append_assoc, List.filterMap_cons]
    cases g x <;> rfl
section
variable {c : Case} {ms : List Nm} {s : Sta}
theorem Zhe (h : VS c ms s) : (c.names.map fun n => D.str n.s) = (c.ws.zip s.jobs).map fun q => D.str q.1.1.s := by
  have e : (c.ws.zip s.jobs).map Prod.fst = c.ws := List.map_fst_zip (by rw [h.v.jl]; exact Nat.le_refl _)
  unfold Case.names
  conv => lhs; rw [← e]
  rw [List.map_map, List.map_map]
  rfl
theorem Zkq {i : Nat} {q : (Nm × List It) × (Bool × Option Nat)} (h : (c.ws.zip s.jobs)[i]? = some q) : ixG (.tup (s.jobs.map jobD)) (.int (i : Nat)) = some (jobD q.2) ∧ ixG (.lst (c.ws.map fun q => Z52 q.2)) (.int (i : Nat)) = some (Z52 q.1.2) := by
  rw [List.getElem?_zip_eq_some] at h
  exact ⟨Z9w jobD h.2, Zdn (fun q : Nm × List It => Z52 q.2) h.1⟩
theorem Zpd (h : VS c ms s) (top : Nat) : Z1x [Z2t c, stD s, .int (top : Nat)] = .ok (.lst ((mvs c s top).map mvD)) := by
  have h8 := h.few
  have hj := h.jfew
  have hn8 := Zap s.ins
  unfold Z1x
  simp only [t5, few1, lt_int, lft_some, int_bl, Zfp]
  generalize hA : (if s.came < top then [Mv.come] else []) = A
  have hAl : A.length ≤ 1 := by subst hA; split <;> simp
  have e1 : (if decide ((s.came : Int) < (top : Int)) = true then [D.tup [.str "come"]] else []) = A.map mvD := by
    subst hA
    by_cases q : s.came < top
    · rw [if_pos (decide_eq_true (by omega)), if_pos q]; rfl
    · rw [if_neg (by rw [decide_eq_true_eq]; omega), if_neg q]; rfl
  rw [e1, Zj9 h.v.sort (by omega), lft_some, items_lst]
  rw [Zle (e := natD) (st := fun acc => (.lst (acc.map mvD) : D)) (g := fun p => if Z6b c s (ent c.hs p).1.w = true then some (.go p) else none) (nubN s.ins) A (by omega) (fun p hp acc ha => by
    have hlt := h.v.lt p (mem_nubN.mp hp)
    have hx := Z40 hlt
    simp only [Z6r, lft_some, natD, hx, l_0, Zhj h (Z5l h.ok.hand.good hlt), call_ok, asB_bl, Bool.not_not, asL_lst, few2]
    cases Z6b c s (ent c.hs p).1.w
    · simp
    · simp only [if_true, show D.tup [.str "go", .int (p : Nat)] = mvD (.go p) from rfl, Zaa _ ha, Option.toList_some])]
  rw [after_nx]
  generalize hB : A ++ (nubN s.ins).filterMap (fun p => if Z6b c s (ent c.hs p).1.w = true then some (Mv.go p) else none) = B
  have hBl : B.length ≤ 9 := by
    subst hB
    have := List.length_filterMap_le (fun p => if Z6b c s (ent c.hs p).1.w = true then some (Mv.go p) else none) (nubN s.ins)
    rw [List.length_append]; omega
  simp only [Z5n, lft_some]
  have en : ∀ k : List D -> R Unit D, R.enumA (Z8w c) k = k (Z7q 0 ((c.ws.zip s.jobs).map fun q => D.str q.1.1.s)) := fun k => by
    rw [← Zhe h, ← Zb5]; rfl
  simp only [en]
  rw [Zi6 (e := fun q : (Nm × List It) × (Bool × Option Nat) => D.str q.1.1.s) (st := fun acc => (.lst (acc.map mvD) : D)) (g := begE) _ 0 B (by omega) (fun i q acc hq ha => by
    obtain ⟨j1, _⟩ := Zkq hq
    obtain ⟨q1, b, o⟩ := q
    rw [Nat.zero_add]
    simp only [tup2_tup, j1, lft_some, j_0, j_1, asB_bl, isN, asL_lst, few2]
    unfold begE
    cases b <;> cases o <;> simp only [Bool.false_eq_true, if_false, if_true, bind_ok, Option.isNone_none, Option.isNone_some, Bool.and_true, Bool.and_false, Bool.false_and, Option.toList_none, List.append_nil, Option.toList_some]
    · exact Zaa (.begin q1.1) ha _)]
  rw [after_nx]
  generalize hC : B ++ (c.ws.zip s.jobs).filterMap begE = C
  have hCl : C.length ≤ 11 := by
    subst hC
    have := List.length_filterMap_le begE (c.ws.zip s.jobs)
    rw [List.length_append]; omega
  rw [Zi6 (e := fun q : (Nm × List It) × (Bool × Option Nat) => D.str q.1.1.s) (st := fun acc => (.lst (acc.map mvD) : D)) (g := runE c s) _ 0 C (by omega) (fun i q acc hq ha => by
    obtain ⟨j1, j2⟩ := Zkq hq
    rw [Nat.zero_add]
    simp only [tup2_tup, j1, Z9c, j2, lft_some, j_1, notN, asB_bl, asL_lst, few2]
    unfold runE
    cases ho : q.2.2 with
    | none => simp only [Option.isSome_none, Bool.false_eq_true, if_false, bind_ok, Option.toList_none, List.append_nil]
    | some p =>
      obtain ⟨hlt, hm⟩ := Zjx h (List.mem_of_getElem? hq) ho
      have hx := Z40 hlt
      simp only [Option.isSome_some, if_true, optD, hx, lft_some, l_0, call_ok, Zhj h (Z5l (Zf0 h hm) hlt), asB_bl, Bool.not_not, bind_ok]
      cases Z6b c s (ent q.1.2 p).1.w
      · simp only [Bool.false_eq_true, if_false, Option.toList_none, List.append_nil]
      · simp only [if_true, Option.toList_some]
        exact Zaa (.run q.1.1) ha _)]
  rw [after_nx]
  generalize hE : C ++ (c.ws.zip s.jobs).filterMap (runE c s) = E
  have hEl : E.length ≤ 13 := by
    subst hE
    have := List.length_filterMap_le (runE c s) (c.ws.zip s.jobs)
    rw [List.length_append]; omega
  have hM : mvs c s top = E ++ Zfk c s := by
    subst hE hC hB hA
    unfold mvs
    rw [Z98]
    simp only [List.append_assoc]
  rw [hM]
  simp only [R.join, Z5m, len_tup, List.length_map, lt_int, lft_some, asB_bl]
  unfold Zfk
  by_cases q : s.done < c.ps.length
  · have hx : c.ps[s.done]? = some c.ps[s.done] := List.getElem?_eq_getElem q
    rw [if_pos (decide_eq_true (by omega)), Z9w St.d hx, lft_some, Zmt h (List.getElem_mem q), call_ok, asB_bl, Bool.not_not, bind_ok, hx]
    simp only
    cases Zjr c s c.ps[s.done]
    · simp only [Bool.false_eq_true, if_false, List.append_nil]
    · simp only [if_true, asL_lst]
      rw [show D.tup [.str "step"] = mvD .step from rfl, Zaa _ (by omega)]
  · rw [if_neg (by rw [decide_eq_true_eq]; omega), bind_ok, List.getElem?_eq_none (by omega)]
    simp only [Bool.false_eq_true, if_false, List.append_nil]
theorem Zjq (h : VS c ms s) {p : Nat} (hp : p < sizes c.hs) : Z19 [Z2t c, stD s, mvD (.go p)] = .ok (ent c.hs p).1.d := by
  unfold Z19
  have e0 : ixG (mvD (.go p)) (.int 0) = some (.str "go") := rfl
  have e1 : ixG (mvD (.go p)) (.int 1) = some (.int (p : Nat)) := rfl
  have e2 : eqG (.str "go") (.str "go") = some (.bl true) := rfl
  simp only [e0, e1, e2, lft_some, asB_bl, if_true, Z6r, Z40 hp, l_0]
theorem Zhp (h : VS c ms s) {n : Nm} (hn : n ∈ c.names) : ixG (.lst (c.ws.map fun q => Z52 q.2)) (.int (c.names.idxOf n : Nat)) = some (Z52 (rowOf c n)) := by
  obtain ⟨q, e, rfl⟩ := Zmo hn
  rw [Zbu h.ok e]
  exact Zdn (fun q : Nm × List It => Z52 q.2) e
theorem Zhk (h : VS c ms s) {n : Nm} (hn : n ∈ c.names) {p : Nat} (hp : p < sizes (rowOf c n)) (hj : (Z2s c s n).2 = some p) : Z19 [Z2t c, stD s, mvD (.run n)] = .ok (ent (rowOf c n) p).1.d := by
  unfold Z19
  have e0 : ixG (mvD (.run n)) (.int 0) = some (.str "run") := rfl
  have e1 : ixG (mvD (.run n)) (.int 1) = some (.str n.s) := rfl
  have e2 : eqG (.str "run") (.str "go") = some (.bl false) := rfl
  have e3 : eqG (.str "run") (.str "run") = some (.bl true) := rfl
  have hx : ixG (Z52 (rowOf c n)) (optD (some p)) = some (laD (ent (rowOf c n) p)) := Z40 hp
  simp only [e0, e1, e2, e3, lft_some, asB_bl, Bool.false_eq_true, if_false, if_true, Z5n, Z6n, Zfz hn, Z9c, Zhp h hn, Ze9, Zhu h hn, j_1, hj, hx, l_0]
theorem Zfv (h : VS c ms s) {x : St} (hx : c.ps[s.done]? = some x) : Z19 [Z2t c, stD s, mvD .step] = .ok x.d := by
  unfold Z19
  have e0 : ixG (mvD .step) (.int 0) = some (.str "step") := rfl
  have e2 : eqG (.str "step") (.str "go") = some (.bl false) := rfl
  have e3 : eqG (.str "step") (.str "run") = some (.bl false) := rfl
  have e4 : eqG (.str "step") (.str "step") = some (.bl true) := rfl
  simp only [e0, e2, e3, e4, lft_some, asB_bl, Bool.false_eq_true, if_false, if_true, Z5m, Zbg, Z9w St.d hx, bind_ok]
theorem Zjo (w : Wd) : inA (.str w.s) (.lst [.str "hold", .str "enter", .str "leave", .str "ask", .str "use", .str "start"]) = some (.bl (Zgg w)) := by cases w <;> rfl
theorem Zmu {x : St} (hx : x.good = true) : inA (.str x.word) (.lst [.str "mark", .str "wait", .str "empty", .str "bar", .str "forget", .str "idle", .str "let"]) = some (.bl (Zgh x)) := by cases x <;> first | rfl | cases hx
theorem Zes (h : VS c ms s) {m : Mv} {x : It} (hx : x.good = true) (hi : Z19 [Z2t c, stD s, mvD m] = .ok x.d) (hs : (∃ p, m = .go p) ∨ ∃ n, m = .run n) : Z14 [Z2t c, stD s, mvD m] = .ok (fwD (Z76 c s x.w)) := by
  unfold Z14
  have e0 : ∃ w : Str, ixG (mvD m) (.int 0) = some (.str w) ∧ eqG (.str w) (.str "step") = some (.bl false) := by
    rcases hs with ⟨p, rfl⟩ | ⟨n, rfl⟩ <;> exact ⟨_, rfl, rfl⟩
  obtain ⟨w, e0, e2⟩ := e0
  have wt : ∀ w : Wd, eqG (.str w.s) (.str "touch") = some (.bl (decide (w = .touch))) := Zlo
  simp only [hi, call_ok, Z9x hx, lft_some, wt, asB_bl, few1, few6, show D.tup [.str "down"] = St.d .down from rfl, Zho h, R.join, e0, e2, Bool.false_eq_true, if_false, Zjo, Zer h]
  unfold Z76
  by_cases q : x.w = Wd.touch
  · rw [if_pos (decide_eq_true q), if_pos q]
    cases did c s .down <;> rfl
  · rw [if_neg (by rw [decide_eq_true_eq]; exact q), if_neg q]
    cases Zgg x.w <;> cases SC.freed c s <;> rfl
theorem Zpg (h : VS c ms s) {top : Nat} {m : Mv} (hm : MvOk c s top m) : Z14 [Z2t c, stD s, mvD m] = .ok (fwD (fault c s m)) := by
  cases m with
  | come => rfl
  | begin n => rfl
  | go p =>
    have hlt := h.v.lt p hm.1
    exact Zes h (Z5l h.ok.hand.good hlt) (Zjq h hlt) (.inl ⟨p, rfl⟩)
  | run n =>
    obtain ⟨i, q, b, p, e1, rfl, e2, _⟩ := hm
    have hr := Zbu h.ok e1
    have hj := Zf1 h.ok e1 e2
    have hl := h.v.job i q b p e1 e2
    have hn : q.1 ∈ c.names := List.mem_map_of_mem (List.mem_of_getElem? e1)
    have hg := Zf0 h (List.mem_of_getElem? e1)
    rw [← hr] at hl hg
    have := Zes h (Z5l hg hl) (Zhk h hn hl (by rw [hj])) (.inr ⟨_, rfl⟩)
    rw [this]
    show _ = R.ok (fwD (match (Z2s c s q.1).2 with | some p => Z76 c s (ent (rowOf c q.1) p).1.w | none => none))
    rw [hj]
  | step =>
    obtain ⟨x, hx, _⟩ := hm
    have hg := h.ok.pull.good x (List.mem_of_getElem? hx)
    unfold Z14
    have e0 : ixG (mvD .step) (.int 0) = some (.str "step") := rfl
    have e2 : eqG (.str "step") (.str "step") = some (.bl true) := rfl
    have e3 : eqG (.str x.word) (.str "touch") = some (.bl false) := by cases x <;> first | rfl | cases hg
    simp only [Zfv h hx, call_ok, sx0 hg, lft_some, e3, asB_bl, Bool.false_eq_true, if_false, few6, few7, R.join, e0, e2, if_true, Zmu hg, Zer h]
    show _ = R.ok (fwD (match c.ps[s.done]? with | some x => Z83 c s x | none => none))
    rw [hx]
    show _ = R.ok (fwD (if (Zgh x && SC.freed c s) = true then some .used else none))
    cases Zgh x <;> cases SC.freed c s <;> rfl
theorem Zl5 (h : VS c ms s) {z : La} (hx : z.1.good = true) : Z1n [Z2t c, stD s, laD z] = .ok (if Z6a c s z.1.w = true then .non else .int ((if turns c s z.1 = true then z.2.2.1 else z.2.1 : Nat) : Int)) := by
  unfold Z1n
  have a1 : ∀ w : Wd, eqG (.str w.s) (.str "look") = some (.bl (decide (w = .look))) := Zo1
  have a2 : ∀ w : Wd, eqG (.str w.s) (.str "try") = some (.bl (decide (w = .try_))) := Zr0
  have a3 : ∀ w : Wd, eqG (.str w.s) (.str "ask") = some (.bl (decide (w = .ask))) := Zr3
  simp only [l_0, lft_some, Z9x hx, a1, a2, a3, asB_bl, few1, show D.tup [.str "out"] = St.d .out from rfl, Zho h, call_ok, Zer h]
  have e1 : (R.bind (if decide (z.1.w = Wd.look) = true then R.ok (did c s .out) else R.ok false) fun b273 => if b273 = true then R.ok true else R.bind (if decide (z.1.w = Wd.try_) = true then R.ok (SC.freed c s) else R.ok false) fun b267 => R.ok b267 : R Unit Bool) = .ok (Z6a c s z.1.w) := by
    unfold Z6a
    cases decide (z.1.w = Wd.look) <;> cases decide (z.1.w = Wd.try_) <;> cases did c s .out <;> cases SC.freed c s <;> rfl
  rw [e1, bind_ok]
  cases Z6a c s z.1.w
  · simp only [Bool.false_eq_true, if_false]
    cases hz : z.1 with
    | s x =>
      rw [hz] at hx
      have q : (It.s x).w ≠ Wd.ask := by cases x <;> first | (intro e; cases e; done) | cases hx
      rw [decide_eq_false q]
      simp only [Bool.false_eq_true, if_false, bind_ok, int_bl, lft_some, add_int, turns, l_1]
      rfl
    | ask n ys =>
      have e2 : ixG (It.ask n ys).d (.int 1) = some (.str n.s) := rfl
      have e3 : slG (It.ask n ys).d (some 1) (some 2) = some (.tup [.str n.s]) := rfl
      have e4 : truD (.tup [.str n.s]) = some true := rfl
      rw [show decide ((It.ask n ys).w = Wd.ask) = true from rfl]
      simp only [if_true, asI_int, e2, e3, e4, lft_some, bind_ok, few2, show D.tup [.str "mark", .str n.s] = St.d (.mark n) from rfl, Zho h, call_ok, int_bl, add_int, turns]
      by_cases q : did c s (St.mark n) = true
      · simp only [q, if_true]
        rfl
      · rw [Bool.not_eq_true] at q
        simp only [q, Bool.false_eq_true, if_false]
        rfl
  · rfl
theorem Z8d {α : Type} {e : α -> D} {xs : List α} {i : Nat} (h : i < xs.length) (y : α) {β ω : Type} (k : D -> R β ω) : R.setAt (xs.map e) (.int (i : Nat)) (e y) k = k (.lst ((xs.set i y).map e)) := by
  unfold R.setAt
  have : ixN (xs.map e).length (i : Int) = some i := by
    unfold ixN
    rw [List.length_map, if_pos (by omega), if_pos (by omega)]
    rfl
  simp only [this]
  rw [List.map_set]
theorem Zeo (h : VS c ms s) {jobs : List (Bool × Option Nat)} (hl : jobs.length = c.ws.length) {d : D} (hd : Z8y [d] = some (.lst (jobs.map jobD))) {x : It} (hx : x.good = true) (hn : ∀ n, x = .s (.start n) -> n ∈ c.names) : Zs [Z2t c, stD s, d, x.d] = .ok (.tup ((strt c s jobs x).map jobD)) := by
  unfold Zs
  have a1 : ∀ w : Wd, eqG (.str w.s) (.str "start") = some (.bl (decide (w = .start))) := fun w => by cases w <;> rfl
  simp only [hd, lft_some, R.join, Z9x hx, a1, asB_bl]
  by_cases q : x.w = Wd.start
  · obtain ⟨n, rfl⟩ := Zj6 hx q
    have hn := hn n rfl
    have e1 : ixG (It.s (Sx.start n)).d (.int 1) = some (.str n.s) := rfl
    rw [decide_eq_true q]
    simp only [if_true, e1, lft_some, few2, show D.tup [.str "bar", .str n.s] = St.d (.bar n) from rfl, Zho h, call_ok, asB_bl, bind_ok]
    show _ = R.ok (D.tup ((if did c s (.bar n) = true then jobs else setJ c jobs n (true, (jobs.getD (c.names.idxOf n) (false, none)).2)).map jobD))
    cases did c s (.bar n)
    · have hi := List.idxOf_lt_length_of_mem hn
      have hj : c.names.idxOf n < jobs.length := by rw [hl]; rwa [Case.names, List.length_map] at hi
      have ej : ixG (.lst (jobs.map jobD)) (.int (c.names.idxOf n : Nat)) = some (jobD (jobs.getD (c.names.idxOf n) (false, none))) := by
        refine Zdn jobD ?_
        rw [List.getD_eq_getElem?_getD, List.getElem?_eq_getElem hj]; rfl
      simp only [Bool.not_false, if_true, Z5n, Z6n, Zfz hn, lft_some, asL_lst, ej, j_1, few2]
      simp only [show ∀ (a : Bool) (o : Option Nat), D.tup [.bl a, optD o] = jobD (a, o) from fun _ _ => rfl]
      rw [Z8d hj]
      rfl
    · rfl
  · rw [decide_eq_false q]
    simp only [Bool.false_eq_true, if_false, bind_ok]
    rw [Zlv q]
    rfl
theorem Zpb (a b : Nat) : ltG (.int (a : Nat)) (.int (b : Nat)) = some (.bl (decide (a < b))) := by
  rw [lt_int]
  congr 2
  rw [Bool.eq_iff_iff, decide_eq_true_eq, decide_eq_true_eq]; omega
theorem Zrj (h : VS c ms s) {p : Nat} (hp : p ∈ s.ins) : Z34 [Z2t c, stD s, .int (p : Nat)] = .ok (stD (gone c s p)) := by
  have h8 := h.few
  have hlt := h.v.lt p hp
  have hx := Z5l h.ok.hand.good hlt
  have hst : ∀ n, (ent c.hs p).1 = .s (.start n) -> n ∈ c.names := fun n e => Zct h.ok.hand.nm hlt e
  have hle := Zlg hlt
  have hel : (s.ins.erase p).length ≤ 8 := Nat.le_trans List.length_erase_le h8
  have hes : (s.ins.erase p).Pairwise (· ≤ ·) := h.v.sort.sublist List.erase_sublist
  have hfl : slG (laD (ent c.hs p)) (some 3) none = some (flD (ent c.hs p).2.2.2) := rfl
  have hln : lenG [Z52 c.hs] = some (.int (sizes c.hs : Nat)) := by
    unfold Z52
    rw [len_lst, List.length_map, Zd3]
  have hrem : ∀ {β γ : Type} (k : D -> R β γ), R.rem (s.ins.map natD) (.int (p : Nat)) k = k (.lst ((s.ins.erase p).map natD)) := fun k => Zoq hp k
  unfold Z34
  simp only [t5, Z6r, lft_some, Z40 hlt, Zl5 h hx, call_ok, Z8x, asL_lst, hrem, R.join, hln, l_0, Zeo h h.v.jl (Z8x _) hx hst, hfl, asI_int, Zb3 hx]
  unfold gone later
  cases hs : Z6a c s (ent c.hs p).1.w
  · simp only [Bool.false_eq_true, if_false]
    generalize hq : (if turns c s (ent c.hs p).1 = true then (ent c.hs p).2.2.1 else (ent c.hs p).2.1) = q
    have hq' : q ≤ sizes c.hs := by subst hq; split <;> omega
    simp only [show Z4u (.int (q : Nat)) .non = some (.bl true) from rfl, lft_some, asB_bl, if_true, Zpb, bind_ok]
    by_cases e : q = sizes c.hs
    · rw [if_neg (by rw [decide_eq_true_eq]; omega), if_pos e]
      have key : (R.bind (if s.leak = true then R.ok (.bl true) else R.bind (R.lft (ixG (flD ((ent c.hs p).2.2.2.goes (ent c.hs p).1.w)) (.int 0)) fun x216 => R.ok x216) fun x218 => R.ok x218) R.ok : R Unit D) = .ok (.bl (s.leak || (!false && ((ent c.hs p).2.2.2.goes (ent c.hs p).1.w).h))) := by
        cases s.leak <;> rfl
      rw [Zb8, key, bind_ok]
      simp only [Za6 (List.Perm.refl _) hes, lft_some, tupG, few5]
      rfl
    · rw [if_pos (decide_eq_true (by omega)), if_neg e, push_eq, if_pos (by rw [List.length_map]; omega)]
      rw [show (s.ins.erase p).map natD ++ [.int (q : Nat)] = (s.ins.erase p ++ [q]).map natD by rw [List.map_append]; rfl, Za6 (ms := insN q (s.ins.erase p)) ((Z4c _ _).trans (List.perm_append_singleton _ _).symm) (Z95 hes)]
      simp only [lft_some, tupG, few5]
      rfl
  · simp only [if_true, show Z4u .non .non = some (.bl false) from rfl, lft_some, asB_bl, Bool.false_eq_true, if_false, bind_ok]
    have key : (R.bind (if s.leak = true then R.ok (.bl true) else R.ok (.bl false)) R.ok : R Unit D) = .ok (.bl (s.leak || (!true && ((ent c.hs p).2.2.2.goes (ent c.hs p).1.w).h))) := by
      cases s.leak <;> rfl
    rw [Zb8, key, bind_ok]
    simp only [Za6 (List.Perm.refl _) hes, lft_some, tupG, few5]
    rfl
theorem lran (h : VS c ms s) {n : Nm} (hn : n ∈ c.names) {p : Nat} (hp : p < sizes (rowOf c n)) (hj : (Z2s c s n).2 = some p) (hg : WorkOk c.names ms (rowOf c n)) : Z3k [Z2t c, stD s, .str n.s] = .ok (stD (ran c s n p)) := by
  have hx := Z5l hg.good hp
  have hst : ∀ m, (ent (rowOf c n) p).1 = .s (.start m) -> m ∈ c.names := fun m e => Zct hg.nm hp e
  have hxi : ixG (Z52 (rowOf c n)) (optD (some p)) = some (laD (ent (rowOf c n) p)) := Z40 hp
  have hop := Zlm hg _ (Z7r hp)
  have hns : Z6a c s (ent (rowOf c n) p).1.w = false := by
    unfold Z6a
    have q1 : (ent (rowOf c n) p).1.w ≠ Wd.look := fun e => by rw [e] at hop; cases hop
    have q2 : (ent (rowOf c n) p).1.w ≠ Wd.try_ := fun e => by rw [e] at hop; cases hop
    rw [decide_eq_false q1, decide_eq_false q2]; rfl
  have hln : lenG [Z52 (rowOf c n)] = some (.int (sizes (rowOf c n) : Nat)) := by
    unfold Z52
    rw [len_lst, List.length_map, Zd3]
  have hi := List.idxOf_lt_length_of_mem hn
  have hjl : c.names.idxOf n < s.jobs.length := by rw [h.v.jl]; rwa [Case.names, List.length_map] at hi
  have ejl : ixG (.lst (s.jobs.map jobD)) (.int (c.names.idxOf n : Nat)) = some (jobD (Z2s c s n)) := by
    refine Zdn jobD ?_
    unfold Z2s
    rw [List.getD_eq_getElem?_getD, List.getElem?_eq_getElem hjl]; rfl
  have hla : later c s (rowOf c n) p = (if turns c s (ent (rowOf c n) p).1 = true then (ent (rowOf c n) p).2.2.1 else (ent (rowOf c n) p).2.1) := by
    unfold later; rw [hns]; rfl
  unfold Z3k
  simp only [t5, Z5n, Z6n, Zfz hn, lft_some, Z9c, Zhp h hn, Zhu h hn, j_1, hj, hxi, Zl5 h hx, hns, Bool.false_eq_true, if_false, call_ok, Z8x, asL_lst, ejl, j_0, hln, ← hla, Zib, asB_bl]
  have key : ((if decide (later c s (rowOf c n) p = sizes (rowOf c n)) = true then R.ok .non else R.ok (.int (later c s (rowOf c n) p : Nat))) : R Unit D) = .ok (optD (if later c s (rowOf c n) p = sizes (rowOf c n) then none else some (later c s (rowOf c n) p))) := by
    by_cases q : later c s (rowOf c n) p = sizes (rowOf c n)
    · rw [if_pos (decide_eq_true q), if_pos q]; rfl
    · rw [if_neg (by rw [decide_eq_true_eq]; exact q), if_neg q]; rfl
  rw [key]
  simp only [bind_ok, few2]
  simp only [show ∀ (a : Bool) (o : Option Nat), D.tup [.bl a, optD o] = jobD (a, o) from fun _ _ => rfl]
  rw [Z8d hjl]
  have hl2 : (setJ c s.jobs n ((Z2s c s n).1, if later c s (rowOf c n) p = sizes (rowOf c n) then none else some (later c s (rowOf c n) p))).length = c.ws.length := by unfold setJ; rw [List.length_set]; exact h.v.jl
  have hst2 := Zeo h hl2 (d := .lst ((setJ c s.jobs n ((Z2s c s n).1, if later c s (rowOf c n) p = sizes (rowOf c n) then none else some (later c s (rowOf c n) p))).map jobD)) rfl hx hst
  unfold setJ at hst2
  simp only [l_0, lft_some]
  rw [hst2, call_ok, few5]
  rfl
theorem Zpl (h : VS c ms s) {top : Nat} {m : Mv} (hm : MvOk c s top m) : Zy [Z2t c, stD s, mvD m] = .ok (stD (after c s m)) := by
  have h8 := h.few
  cases m with
  | come =>
    unfold Zy
    have e0 : ixG (mvD .come) (.int 0) = some (.str "come") := rfl
    have e1 : eqG (.str "come") (.str "come") = some (.bl true) := rfl
    simp only [t5, e0, e1, lft_some, asB_bl, if_true, add_int, few1]
    rw [Znp _ _ (by simp; omega), lft_some, few5]
    rfl
  | go p =>
    unfold Zy
    have e0 : ixG (mvD (.go p)) (.int 0) = some (.str "go") := rfl
    have e1 : eqG (.str "go") (.str "come") = some (.bl false) := rfl
    have e2 : eqG (.str "go") (.str "go") = some (.bl true) := rfl
    have e3 : ixG (mvD (.go p)) (.int 1) = some (.int (p : Nat)) := rfl
    simp only [t5, e0, e1, e2, e3, lft_some, asB_bl, if_true, Bool.false_eq_true, if_false, Zrj h hm.1, call_ok]
    rfl
  | run n =>
    obtain ⟨i, q, b, p, e1, rfl, e2, _⟩ := hm
    have hr := Zbu h.ok e1
    have hj := Zf1 h.ok e1 e2
    have hl := h.v.job i q b p e1 e2
    have hn : q.1 ∈ c.names := List.mem_map_of_mem (List.mem_of_getElem? e1)
    have hg := h.ok.work q (List.mem_of_getElem? e1)
    rw [← hr] at hl hg
    unfold Zy
    have e0 : ixG (mvD (.run q.1)) (.int 0) = some (.str "run") := rfl
    have e1 : eqG (.str "run") (.str "come") = some (.bl false) := rfl
    have e2 : eqG (.str "run") (.str "go") = some (.bl false) := rfl
    have e3 : eqG (.str "run") (.str "run") = some (.bl true) := rfl
    have e4 : ixG (mvD (.run q.1)) (.int 1) = some (.str q.1.s) := rfl
    simp only [t5, e0, e1, e2, e3, e4, lft_some, asB_bl, if_true, Bool.false_eq_true, if_false, lran h hn hl (by rw [hj]) hg, call_ok]
    show _ = R.ok (stD (match (Z2s c s q.1).2 with | some p => ran c s q.1 p | none => s))
    rw [hj]
  | begin n =>
    obtain ⟨i, q, e1, rfl, e2⟩ := hm
    have hn : q.1 ∈ c.names := List.mem_map_of_mem (List.mem_of_getElem? e1)
    have hi := List.idxOf_lt_length_of_mem hn
    have hjl : c.names.idxOf q.1 < s.jobs.length := by rw [h.v.jl]; rwa [Case.names, List.length_map] at hi
    unfold Zy
    have e0 : ixG (mvD (.begin q.1)) (.int 0) = some (.str "begin") := rfl
    have e1 : eqG (.str "begin") (.str "come") = some (.bl false) := rfl
    have e2 : eqG (.str "begin") (.str "go") = some (.bl false) := rfl
    have e3 : eqG (.str "begin") (.str "run") = some (.bl false) := rfl
    have e5 : eqG (.str "begin") (.str "begin") = some (.bl true) := rfl
    have e4 : ixG (mvD (.begin q.1)) (.int 1) = some (.str q.1.s) := rfl
    simp only [t5, e0, e1, e2, e3, e4, e5, lft_some, asB_bl, if_true, Bool.false_eq_true, if_false, Z8x, asL_lst, few2, Z5n, Z6n, Zfz hn]
    simp only [show D.tup [.bl false, .int 0] = jobD (false, some 0) from rfl]
    rw [Z8d hjl]
    simp only [tupG, lft_some, few5]
    rfl
  | step =>
    obtain ⟨x, hx, _⟩ := hm
    have hg := h.ok.pull.good x (List.mem_of_getElem? hx)
    have hnm := h.ok.pull.nm x (List.mem_of_getElem? hx)
    unfold Zy
    have e0 : ixG (mvD .step) (.int 0) = some (.str "step") := rfl
    have e1 : eqG (.str "step") (.str "come") = some (.bl false) := rfl
    have e2 : eqG (.str "step") (.str "go") = some (.bl false) := rfl
    have e3 : eqG (.str "step") (.str "run") = some (.bl false) := rfl
    have e5 : eqG (.str "step") (.str "begin") = some (.bl false) := rfl
    simp only [t5, e0, e1, e2, e3, e5, lft_some, asB_bl, Bool.false_eq_true, if_false, Z8x, Z5m, Z9w St.d hx, R.join, sx0 hg, add_int, tupG]
    show _ = R.ok (stD (match c.ps[s.done]? with | some x => ⟨s.came, s.ins, Z6j c s x, s.done + 1, s.leak⟩ | none => s))
    rw [hx]
    by_cases q : ∃ n, x = .forget n
    · obtain ⟨n, rfl⟩ := q
      have hn : n ∈ c.names := of_decide_eq_true hnm
      have hi := List.idxOf_lt_length_of_mem hn
      have hjl : c.names.idxOf n < s.jobs.length := by rw [h.v.jl]; rwa [Case.names, List.length_map] at hi
      have ejl : ixG (.lst (s.jobs.map jobD)) (.int (c.names.idxOf n : Nat)) = some (jobD (Z2s c s n)) := by
        refine Zdn jobD ?_
        unfold Z2s
        rw [List.getD_eq_getElem?_getD, List.getElem?_eq_getElem hjl]; rfl
      have f1 : eqG (.str (St.forget n).word) (.str "forget") = some (.bl true) := rfl
      have f2 : ixG (St.forget n).d (.int 1) = some (.str n.s) := rfl
      simp only [f1, f2, lft_some, asB_bl, if_true, Z5n, Z6n, Zfz hn, asL_lst, ejl, j_1, few2]
      simp only [show ∀ (a : Bool) (o : Option Nat), D.tup [.bl a, optD o] = jobD (a, o) from fun _ _ => rfl]
      rw [Z8d hjl]
      simp only [tupG, lft_some, few5]
      rfl
    · have f1 : eqG (.str x.word) (.str "forget") = some (.bl false) := by cases x <;> first | rfl | (exact absurd ⟨_, rfl⟩ q) | cases hg
      have f2 : Z6j c s x = s.jobs := by cases x <;> first | rfl | exact absurd ⟨_, rfl⟩ q
      simp only [f1, lft_some, asB_bl, Bool.false_eq_true, if_false, tupG, few5, f2]
      rfl
end
structure Rf (n : Nat) (d : D) : Prop where
  ok : (pd d).canLay0 = true
  dep : (pd d).depth ≤ n
  rf : PyData.eqv (pd d) (pd d) = true
theorem Rf.up {n m : Nat} {d : D} (h : Rf n d) (hn : n ≤ m) : Rf m d := ⟨h.ok, Nat.le_trans h.dep hn, h.rf⟩
theorem Z8n {α : Type} [DecidableEq α] {e : α -> D} {n : Nat} (h : Enc e n) (a : α) : Rf n (e a) := ⟨h.ok a, h.dep a, by rw [h.eq]; exact decide_eq_true rfl⟩
theorem Zgx {n : Nat} : ∀ {ds : List D}, (∀ d ∈ ds, Rf n d) -> PyData.canLayAll0 (pds ds) = true ∧ PyData.depthAll (pds ds) ≤ n ∧ PyData.eqvAll (pds ds) (pds ds) = true
  | [], _ => by simp [pds, PyData.canLayAll0, PyData.depthAll, PyData.eqvAll]
  | d :: ds, h => by
    obtain ⟨h1, h2, h3⟩ := Zgx fun x hx => h x (List.mem_cons_of_mem _ hx)
    have hd := h d List.mem_cons_self
    have := hd.dep
    simp only [pds, PyData.canLayAll0, PyData.depthAll, PyData.eqvAll, hd.ok, hd.rf, h1, h3, Bool.and_self, true_and, and_true]
    omega
theorem Rf.lst {n : Nat} {ds : List D} (h : ∀ d ∈ ds, Rf n d) : Rf (n + 1) (.lst ds) := by
  obtain ⟨h1, h2, h3⟩ := Zgx h
  exact ⟨by rw [pd, PyData.canLay0]; exact h1, by rw [pd, PyData.depth]; omega, by rw [pd, PyData.eqv]; exact h3⟩
theorem Rf.tup {n : Nat} {ds : List D} (h : ∀ d ∈ ds, Rf n d) : Rf (n + 1) (.tup ds) := by
  obtain ⟨h1, h2, h3⟩ := Zgx h
  exact ⟨by rw [pd, PyData.canLay0]; exact h1, by rw [pd, PyData.depth]; omega, by rw [pd, PyData.eqv]; exact h3⟩
theorem Rf.eqG {n : Nat} {d : D} (h : Rf n d) (hn : n ≤ 64) : eqG d d = some (.bl true) := by rw [Zia (Z7x h.ok (Nat.le_trans h.dep hn)) (Z7x h.ok (Nat.le_trans h.dep hn)), h.rf]
theorem Rf.neG {n : Nat} {d : D} (h : Rf n d) (hn : n ≤ 64) : neG d d = some (.bl false) := by rw [Zhd (Z7x h.ok (Nat.le_trans h.dep hn)) (Z7x h.ok (Nat.le_trans h.dep hn)), h.rf]; rfl
theorem Zgw (i : Nat) : Rf 0 (.int (i : Nat)) := Z8n enc_nat i
theorem Zm5 (b : Bool) : Rf 0 (.bl b) := Z8n Zq7 b
theorem Zoo : Rf 0 .non := ⟨by decide, by decide, by decide⟩
inductive Mw | come | go | begin | run | step
deriving DecidableEq
def Mw.s : Mw -> Str
  | .come => "come" | .go => "go" | .begin => "begin" | .run => "run" | .step => "step"
theorem encMw : Enc (fun w : Mw => D.str w.s) 0 := Z8f (fun a => by cases a <;> decide +kernel) (fun a b h => by cases a <;> cases b <;> first | rfl | exact absurd h (by decide +kernel))
theorem Zop (m : Mv) : Rf 1 (mvD m) := by
  have w := fun a : Mw => Z8n encMw a
  cases m with
  | come => exact Rf.tup fun d hd => by rw [List.mem_singleton.mp hd]; exact w .come
  | step => exact Rf.tup fun d hd => by rw [List.mem_singleton.mp hd]; exact w .step
  | go p =>
    refine Rf.tup fun d hd => ?_
    simp only [List.mem_cons, List.not_mem_nil, or_false] at hd
    rcases hd with rfl | rfl
    · exact w .go
    · exact Zgw p
  | begin n =>
    refine Rf.tup fun d hd => ?_
    simp only [List.mem_cons, List.not_mem_nil, or_false] at hd
    rcases hd with rfl | rfl
    · exact w .begin
    · exact Z8n enc_nm n
  | run n =>
    refine Rf.tup fun d hd => ?_
    simp only [List.mem_cons, List.not_mem_nil, or_false] at hd
    rcases hd with rfl | rfl
    · exact w .run
    · exact Z8n enc_nm n
theorem encM : Enc mvD 1 := ⟨fun a => (Zop a).ok, fun a => (Zop a).dep, fun a b => by
  have hn : ∀ n m : Nm, PyData.eqv (pd (.str n.s)) (pd (.str m.s)) = decide (n = m) := enc_nm.eq
  have hi : ∀ n m : Nat, PyData.eqv (pd (.int (n : Nat))) (pd (.int (m : Nat))) = decide (n = m) := enc_nat.eq
  have hw : ∀ a b : Mw, PyData.eqv (pd (.str a.s)) (pd (.str b.s)) = decide (a = b) := encMw.eq
  have two : ∀ (a b : Mw) (x y : D), PyData.eqv (pd (.tup [.str a.s, x])) (pd (.tup [.str b.s, y])) = (decide (a = b) && PyData.eqv (pd x) (pd y)) := fun a b x y => by
    have := hw a b
    simp only [pd] at this
    simp only [pd, pds, PyData.eqv, PyData.eqvAll, Bool.and_true]
    rw [← this, PyData.eqv]
  have one : ∀ (a b : Mw), PyData.eqv (pd (.tup [.str a.s])) (pd (.tup [.str b.s])) = decide (a = b) := fun a b => by
    have := hw a b
    simp only [pd] at this
    simp only [pd, pds, PyData.eqv, PyData.eqvAll, Bool.and_true]
    rw [← this, PyData.eqv]
  have mix : ∀ (a b : Mw) (x : D), PyData.eqv (pd (.tup [.str a.s])) (pd (.tup [.str b.s, x])) = false := fun a b x => by
    simp [pd, pds, PyData.eqv, PyData.eqvAll]
  have mix' : ∀ (a b : Mw) (x : D), PyData.eqv (pd (.tup [.str a.s, x])) (pd (.tup [.str b.s])) = false := fun a b x => by
    simp [pd, pds, PyData.eqv, PyData.eqvAll]
  have fin : ∀ p q : Bool, (p = true ↔ q = true) -> p = q := fun p q h => Bool.eq_iff_iff.mpr h
  cases a <;> cases b
  · exact one .come .come
  · exact (mix .come .go _).trans (by simp)
  · exact (mix .come .begin _).trans (by simp)
  · exact (mix .come .run _).trans (by simp)
  · exact one .come .step
  · exact (mix' .go .come _).trans (by simp)
  · exact (two .go .go _ _).trans (by rw [hi]; simp)
  · exact (two .go .begin _ _).trans (by simp)
  · exact (two .go .run _ _).trans (by simp)
  · exact (mix' .go .step _).trans (by simp)
  · exact (mix' .begin .come _).trans (by simp)
  · exact (two .begin .go _ _).trans (by simp)
  · exact (two .begin .begin _ _).trans (by rw [hn]; simp)
  · exact (two .begin .run _ _).trans (by simp)
  · exact (mix' .begin .step _).trans (by simp)
  · exact (mix' .run .come _).trans (by simp)
  · exact (two .run .go _ _).trans (by simp)
  · exact (two .run .begin _ _).trans (by simp)
  · exact (two .run .run _ _).trans (by rw [hn]; simp)
  · exact (mix' .run .step _).trans (by simp)
  · exact one .step .come
  · exact (mix .step .go _).trans (by simp)
  · exact (mix .step .begin _).trans (by simp)
  · exact (mix .step .run _).trans (by simp)
  · exact one .step .step⟩
section
variable {c : Case} {ms : List Nm} {s : Sta}
theorem gvs (h : CaseOk c ms) (g : Good c s) : VS c ms s := ⟨h, g.v⟩
end
def nmD : Option Nm -> D
  | none => .non
  | some n => .str n.s
abbrev E3 := Option Nm × List It × Nat
def rdD (c : Case) (q : E3) : D := match q.1 with
  | none => Zrq c
  | some _ => Zqz q.2.1
def la3 (q : E3) : La × Option Nm := (ent q.2.1 q.2.2, q.1)
def j3 (q : (Nm × List It) × (Bool × Option Nat)) : Option E3 := q.2.2.map fun p => (some q.1.1, q.1.2, p)
def all3 (c : Case) (s : Sta) : List E3 := s.ins.map (fun p => (none, c.hs, p)) ++ (c.ws.zip s.jobs).filterMap j3
def lk3 (c : Case) (s : Sta) : List E3 := (all3 c s).filter fun q => decide ((ent q.2.1 q.2.2).1.w = Wd.lock)
theorem Zbb (c : Case) (s : Sta) : (all3 c s).map la3 = s.ins.map (fun p => (ent c.hs p, none)) ++ (c.ws.zip s.jobs).filterMap jobL := by
  unfold all3
  rw [List.map_append, List.map_map, List.map_filterMap]
  congr 1
  congr 1
  funext q
  unfold j3 jobL
  cases q.2.2 <;> rfl
theorem Zfw (c : Case) (s : Sta) : Z21 c s = (lk3 c s).map la3 := by
  unfold Z21 lk3
  rw [← Zbb, List.filter_map]
  rfl
section
variable {c : Case} {ms : List Nm} {s : Sta}
structure M3 (c : Case) (ms : List Nm) (q : E3) : Prop where
  lt : q.2.2 < sizes q.2.1
  row : ∃ (C : Str) (op : Nat), rdD c q = rowD C op q.2.1 ∧ HW C
  good : ∀ x ∈ q.2.1, x.good = true
  nh : q.1 ≠ none -> (ent q.2.1 q.2.2).2.2.2.h = false
theorem mem3 (h : VS c ms s) {q : E3} (hq : q ∈ all3 c s) : M3 c ms q := by
  unfold all3 at hq
  rw [List.mem_append, List.mem_map, List.mem_filterMap] at hq
  rcases hq with ⟨p, hp, rfl⟩ | ⟨z, hz, e⟩
  · exact ⟨h.v.lt p hp, ⟨"HandRow", opOf c.hs, rfl, hwH⟩, h.ok.hand.good, fun hn => absurd rfl hn⟩
  · unfold j3 at e
    cases ho : z.2.2 with
    | none => rw [ho] at e; cases e
    | some p =>
      rw [ho] at e
      cases e
      obtain ⟨hlt, hm⟩ := Zjx h hz ho
      have hw := h.ok.work _ hm
      exact ⟨hlt, ⟨"WorkRow", 0, rfl, hwW⟩, hw.good, fun _ => Zgd hw _ (Z7r hlt)⟩
theorem Zke (h : VS c ms s) : (all3 c s).length ≤ 10 := by
  have h8 := h.few
  have hj := h.jfew
  have := List.length_filterMap_le j3 (c.ws.zip s.jobs)
  unfold all3
  rw [List.length_append, List.length_map]; omega
theorem Zm3 {x : St} : eqG (.str x.word) (.str "empty") = some (.bl (decide (x = .empty))) := by cases x <;> rfl
theorem Zlw (c : Case) : stD (start c) = .tup [.int 0, .tup [], .tup (c.ws.map fun _ => .tup [.bl false, .non]), .int 0, .bl false] := by
  unfold stD SC.start Case.names
  simp only [List.map_map]
  rfl
theorem Zpf (h : CaseOk c ms) : Z2l [Z2t c] = .ok (stD (start c)) := by
  have h2 := Zkr h
  unfold Z2l
  simp only [few0, Z5n, lft_some]
  rw [show ∀ k : List D -> R Unit D, R.items (Z8w c) k = k (c.ws.map fun q => .str q.1.s) from fun k => by unfold Z8w nmL Case.names; rw [List.map_map]; rfl, Z4d _ _ (by rw [List.length_map]; omega), Z3t (e := fun q : Nm × List It => D.str q.1.s) (g := fun _ => some (.tup [.bl false, .non])) (fun q hq => by rw [few2]), lst_ok]
  simp only [tupG, lft_some, few5]
  rw [Zlw]
  simp
theorem Zri (h : VS c ms s) : Z2j [Z2t c, stD s] = .ok (.bl (kept c s)) := by
  unfold Z2j
  have e : eqG (.tup (s.ins.map natD)) (.tup []) = some (.bl (decide (s.ins = []))) := enc_nat.tup.eqG (by decide) s.ins []
  simp only [Zbg, Z5m, len_tup, List.length_map, lft_some, Zib, asB_bl, Zgc, few0, e, Zer h, call_ok]
  unfold kept
  have e2 : s.ins.isEmpty = decide (s.ins = []) := by cases s.ins <;> rfl
  rw [e2]
  cases decide (s.done = c.ps.length) <;> cases decide (s.ins = []) <;> rfl
def l7D (q : La × Option Nm) : D := .lst [q.1.1.d, .int (q.1.2.1 : Nat), .int (q.1.2.2.1 : Nat), .bl q.1.2.2.2.h, .bl q.1.2.2.2.u, .bl q.1.2.2.2.l, nmD q.2]
theorem Zrh (o : Option Nm) : Rf 0 (nmD o) := by
  cases o with
  | none => exact Zoo
  | some n => exact Z8n enc_nm n
theorem Zpm (q : La × Option Nm) : Rf 5 (l7D q) := Rf.lst fun d hd => by
  simp only [List.mem_cons, List.not_mem_nil, or_false] at hd
  rcases hd with rfl | rfl | rfl | rfl | rfl | rfl | rfl
  · exact Z8n encI q.1.1
  · exact (Zgw _).up (by decide)
  · exact (Zgw _).up (by decide)
  · exact (Zm5 _).up (by decide)
  · exact (Zm5 _).up (by decide)
  · exact (Zm5 _).up (by decide)
  · exact (Zrh _).up (by decide)
theorem add7 (z : La) (o : Option Nm) : addA (laD z) (.lst [nmD o]) = some (l7D (z, o)) := by
  unfold laD
  rw [add_lst, if_pos (by simp)]
  rfl
def Zju (x : St) : Str := match x with
  | .mark n | .bar n | .forget n | .idle n => n.s
  | x => x.word
theorem Zmy {x : St} (hx : x.good = true) : ixG x.d (.int (-1)) = some (.str (Zju x)) := by cases x <;> first | rfl | cases hx
theorem Zhm {x : It} (hx : x.good = true) : eqG x.d (.tup [.str "lock"]) = some (.bl (decide (x.w = .lock))) := by
  have := encI.eqG (by decide) x (.s .lock)
  rw [show (It.s .lock).d = .tup [.str "lock"] from rfl] at this
  rw [this]
  congr 2
  rw [Bool.eq_iff_iff, decide_eq_true_eq, decide_eq_true_eq]
  constructor
  · rintro rfl; rfl
  · intro hw
    cases x with
    | s x => cases x <;> first | rfl | (cases hw; done) | cases hx
    | ask n ys => cases hw
theorem Zin (h : VS c ms s) : ∀ q ∈ (all3 c s).map la3, q.1.1.good = true := fun q hq => by
  obtain ⟨z, hz, rfl⟩ := List.mem_map.mp hq
  have m := mem3 h hz
  exact Z5l m.good m.lt
def sel (x : St) (A B C : D) : D := match x with
  | .wait => A
  | .empty => B
  | .idle _ => C
  | _ => .lst []
theorem Zn4 {x : St} (hx : x.good = true) (A B C : D) : Zk5 (Z9j [((.inr "wait" : Key), A), (.inr "empty", B)] (.inr "idle") C) (.str x.word) (.lst []) = some (sel x A B C) := by cases x <;> first | rfl | cases hx
theorem Zpu (x : St) (q : La × Option Nm) (hx : x.good = true) : (R.bind (R.lft (ixG (l7D q) (.int 6)) fun x3424 => R.lft (Z4u x3424 .non) fun x3425 => R.asB x3425 fun b3426 => if b3426 then R.lft (ixG (l7D q) (.int 6)) fun x3419 => R.asI (.int 1) fun x3420 => R.lft (ixG x.d (.int (-x3420))) fun x3421 => R.lft (eqG x3419 x3421) fun x3422 => R.asB x3422 fun b3423 => R.ok b3423 else R.ok false) fun b3427 => if b3427 then R.ok (some (l7D q), ()) else R.ok (none, ()) : R Unit (Option D × Unit)) = if (match q.2 with | none => false | some n => decide (n.s = Zju x)) = true then R.ok (some (l7D q), ()) else R.ok (none, ()) := by
  have e6 : ixG (l7D q) (.int 6) = some (nmD q.2) := rfl
  simp only [e6, lft_some, asI_int, Zmy hx]
  cases q.2 with
  | none => rfl
  | some n =>
    simp only [nmD, show Z4u (.str n.s) .non = some (.bl true) from rfl, lft_some, asB_bl, if_true, eq_str, bind_ok]
theorem Zp7 {n m : Nm} (h : n.s = m.s) : n = m := by
  have := enc_nm.eq n m
  rw [show (D.str n.s) = .str m.s by rw [h]] at this
  have h2 := enc_nm.eq m m
  rw [h2] at this
  simpa using this.symm
theorem Zpc (h : VS c ms s) : Z1w [Z2t c, stD s] = .ok (.bl (stuck c s)) := by
  have h8 := h.few
  have hj := h.jfew
  have h10 := Zke h
  have hd := h.v.done
  have hll : (Z21 c s).length ≤ 10 := by rw [Zfw, List.length_map]; exact Nat.le_trans (List.length_filter_le _ _) h10
  unfold Z1w
  simp only [Zgc, lft_some, items_tup]
  rw [Z4d _ _ (by rw [List.length_map]; omega), Z3t (e := natD) (g := fun p => some (l7D (ent c.hs p, none))) (fun p hp => by
    have := Z40 (h.v.lt p hp)
    have a7 := add7 (ent c.hs p) none
    simp only [nmD] at a7
    simp only [Z6r, lft_some, natD, this, few1, a7]), lst_ok, show (s.ins.filterMap fun p => some (l7D (ent c.hs p, none))) = (s.ins.map fun p => ((ent c.hs p, none) : La × Option Nm)).map l7D by rw [List.map_map]; simp [Function.comp]]
  simp only [Z5n, Z9c, Ze9, lft_some, Z6n, asQ_lst, asQ_tup]
  rw [show (c.names.map fun n => D.str n.s) = c.ws.map fun q => .str q.1.s by unfold Case.names; rw [List.map_map]; rfl, Ze8]
  rw [Zdr (e := fun q : (Nm × List It) × (Bool × Option Nat) => D.tup [.str q.1.1.s, Z52 q.1.2, jobD q.2]) (st := fun acc => (.lst (acc.map l7D) : D)) (g := jobL) _ _ (by rw [List.length_map]; omega) (fun q hq acc ha => by
    simp only [Zj3, j_1, lft_some, notN, asB_bl, asL_lst]
    unfold jobL
    cases ho : q.2.2 with
    | none => simp only [Option.isSome_none, Bool.false_eq_true, if_false, Option.map_none, Option.toList_none, List.append_nil]
    | some p =>
      have := Z40 (Zjx h hq ho).1
      have a7 := add7 (ent q.1.2 p) (some q.1.1)
      simp only [nmD] at a7
      simp only [Option.isSome_some, if_true, optD, this, lft_some, few1, a7, Option.map_some, Option.toList_some]
      rw [push_eq, if_pos (by rw [List.length_map]; omega), List.map_append]
      rfl), after_nx]
  rw [← Zbb]
  simp only [items_lst]
  have hfl : ((all3 c s).map la3).filter (fun q => decide (q.1.1.w = Wd.lock)) = Z21 c s := by rw [Zbb]; rfl
  rw [Z4d _ _ (by rw [List.length_map, List.length_map]; omega), Z22 (e := l7D) (p := fun q => decide (q.1.1.w = Wd.lock)) (fun q hq => by
    have x0 : ixG (l7D q) (.int 0) = some q.1.1.d := rfl
    simp only [x0, lft_some, few1, Zhm (Zin h q hq), asB_bl]), lst_ok, hfl]
  have l7o := fun q => (Zpm q).ok
  have l7d := fun q => (Zpm q).dep
  simp only [Zhl h, call_ok, Zbg, Z5m, len_tup, List.length_map, lft_some, Zib, asB_bl]
  unfold stuck
  by_cases q : s.done = c.ps.length
  · rw [if_pos (decide_eq_true q), List.getElem?_eq_none (by omega), few0, Z7z (n := 5) l7o l7d (by decide)]
    cases Z43 c s <;> rfl
  · have hx : c.ps[s.done]? = some c.ps[s.done] := List.getElem?_eq_getElem (by omega)
    rw [if_neg (by rw [decide_eq_true_eq]; exact q), hx]
    simp only [Z9w St.d hx, lft_some, Zgb, asB_bl]
    generalize hy : c.ps[s.done] = x at hx
    have hg := h.ok.pull.good x (List.mem_of_getElem? hx)
    simp only [sx0 hg, lft_some, Zm3, asB_bl]
    have e1 : (if decide (x = St.empty) = true then R.ok s.leak else R.ok false : R Unit Bool) = .ok (decide (x = .empty) && s.leak) := by cases decide (x = St.empty) <;> rfl
    rw [e1, bind_ok]
    cases (decide (x = .empty) && s.leak)
    · simp only [Bool.false_eq_true, if_false, items_lst, Bool.false_or]
      rw [Z4d _ _ (by rw [List.length_map]; omega), Z22 (e := l7D) (p := fun q => q.1.2.2.2.u) (fun q _ => by
        have x0 : ixG (l7D q) (.int 4) = some (.bl q.1.2.2.2.u) := rfl
        simp only [x0, lft_some, asB_bl]), lst_ok]
      have k1 : ∀ (a : Str) (k : Key -> R Unit D), R.ky (.str a) k = k (.inr a) := fun _ _ => rfl
      simp only [k1]
      rw [Z4d _ _ (by rw [List.length_map]; omega), Z22 (e := l7D) (p := fun q => q.1.2.2.2.h) (fun q _ => by
        have x0 : ixG (l7D q) (.int 3) = some (.bl q.1.2.2.2.h) := rfl
        simp only [x0, lft_some, asB_bl]), lst_ok]
      have ad : ∀ (ds : List (Key × D)) (k : List (Key × D) -> R Unit D), R.asDct (.dct ds) k = k ds := fun _ _ => rfl
      have mk : ∀ A B : D, Z4v [] [((.inr "wait" : Key), A), (.inr "empty", B)] = [(.inr "wait", A), (.inr "empty", B)] := fun _ _ => rfl
      have pu : ∀ (A B C : D) (k : D -> R Unit D), R.putDct [((.inr "wait" : Key), A), (.inr "empty", B)] (.str "idle") C k = k (.dct (Z9j [((.inr "wait" : Key), A), (.inr "empty", B)] (.inr "idle") C)) := fun _ _ _ _ => rfl
      rw [if_pos (by simp)]
      simp only [mk, ad]
      rw [Z4d _ _ (by rw [List.length_map]; omega), Z22 (e := l7D) (p := fun q => match q.2 with | none => false | some n => decide (n.s = Zju x)) (fun q _ => Zpu x q hg), lst_ok]
      simp only [pu, show ∀ ds : List (Key × D), asKD (.dct ds) = some ds from fun _ => rfl, lft_some, few0, Zn4 hg]
      have e3 : neG (sel x (.lst (((Z21 c s).filter fun q => q.1.2.2.2.u).map l7D)) (.lst (((Z21 c s).filter fun q => q.1.2.2.2.h).map l7D)) (.lst (((Z21 c s).filter fun q => match q.2 with | none => false | some n => decide (n.s = Zju x)).map l7D))) (.lst []) = some (.bl (Zku c s x)) := by
        have e0 : neG (.lst []) (.lst []) = some (.bl false) := Rf.neG (n := 1) (Rf.lst fun d hd => (nomatch hd)) (by decide)
        cases x <;> first
          | exact e0
          | (show neG (.lst (_ : List D)) (.lst []) = _; rw [Z7z (n := 5) l7o l7d (by decide), Z4e, Bool.not_not]; rfl)
          | skip
        rename_i n
        show neG (.lst (_ : List D)) (.lst []) = _
        rw [Z7z (n := 5) l7o l7d (by decide), Z4e, Bool.not_not]
        show some (D.bl ((Z21 c s).any fun q => match q.2 with | none => false | some m => decide (m.s = n.s))) = some (D.bl ((Z21 c s).any fun q => decide (q.2 = some n)))
        congr 2
        congr 1
        funext q
        cases q.2 with
        | none => rfl
        | some m =>
          show decide (m.s = n.s) = decide (some m = some n)
          rw [Bool.eq_iff_iff, decide_eq_true_eq, decide_eq_true_eq]
          constructor
          · intro e; rw [Zp7 e]
          · intro e; cases e; rfl
      simp only [e3, lft_some]
      cases Z43 c s <;> rfl
    · rfl
theorem Zmp (v : VS c ms s) (top : Nat) : (mvs c s top).length ≤ 14 := by
  have h8 := v.few
  have hj := v.jfew
  have a := Zap s.ins
  have b := List.length_filter_le (fun p => Z6b c s (ent c.hs p).1.w) (nubN s.ins)
  have d := List.length_filterMap_le begE (c.ws.zip s.jobs)
  have e := List.length_filterMap_le (runE c s) (c.ws.zip s.jobs)
  have f : (Zfk c s).length ≤ 1 := by
    unfold Zfk
    split
    · split <;> simp
    · simp
  have k : (if s.came < top then [Mv.come] else []).length ≤ 1 := by split <;> simp
  unfold mvs
  simp only [List.length_append, List.length_map]
  omega
end
theorem Zpo (o : Option Fw) : isNG (fwD o) .non = some (.bl o.isNone) := by
  cases o with
  | none => rfl
  | some w => cases w <;> rfl
end K56
namespace K56
open PySem DM PL RR SC PB
open L2 hiding It St PS
def plD (o a : W) (ws : List W) : D := .fdc [(.inr "hands", rowT (hs o a)), (.inr "works", .fdc []), (.inr "puller", .tup ((ws.map stP).map St.d))]
theorem st_d : ∀ w ∈ PW.eight, (stP w).d = if w = .mark then .tup [PW.wd .mark, .str "gone"] else .tup [PW.wd w] := by
  intro w hw
  simp only [PW.eight, List.mem_cons, List.not_mem_nil, or_false] at hw
  rcases hw with rfl | rfl | rfl | rfl | rfl | rfl | rfl | rfl <;> rfl
theorem Zj5 {ws : List W} (hg : PW.Good ws) (hl : ws.length ≤ 9) : Zu [.lst (ws.map PW.wd)] = .ok (.tup ((ws.map stP).map St.d)) := by
  unfold Zu
  simp only [items_lst]
  rw [Z4d _ _ (by rw [List.length_map]; omega), Z3t (g := fun w => some (stP w).d) (fun w hw => by
    rw [st_d w (hg.mem w hw), show D.str "mark" = PW.wd .mark from rfl]
    simp only [PW.eqW, lft_some, asB_bl, few1, few2]
    by_cases q : w = .mark
    · rw [decide_eq_true q, if_pos rfl, if_pos q]; rfl
    · rw [decide_eq_false q, if_neg (by simp), if_neg q]; rfl), lst_ok]
  rw [show (ws.filterMap fun w => some (stP w).d) = (ws.map stP).map St.d by rw [List.filterMap_eq_map', List.map_map]; rfl]
  rfl
theorem Zon {o a : W} (ho : o ∈ ols) (ha : a ∈ als) : Z1g [PW.wd o, PW.wd a] = .ok (rowT (hs o a)) := by
  simp only [ols, als, List.mem_cons, List.not_mem_nil, or_false] at ho ha
  rcases ho with rfl | rfl | rfl <;> rcases ha with rfl | rfl | rfl | rfl <;> kernel_rfl
theorem Zmc {o a : W} {ws : List W} (ho : o ∈ ols) (ha : a ∈ als) (hg : PW.Good ws) (hl : ws.length ≤ 9) : Z10 [PW.wd o, PW.wd a, .lst (ws.map PW.wd)] = .ok (plD o a ws) := by
  have k1 : ∀ (a : Str) (k : Key -> R Unit D), R.ky (.str a) k = k (.inr a) := fun _ _ => rfl
  unfold Z10
  simp only [Zon ho ha, call_ok, k1, Zj5 hg hl]
  rw [if_pos (by simp)]
  rfl
theorem Znd {o a : W} {ws : List W} (ho : o ∈ ols) (ha : a ∈ als) (hg : PW.Good ws) (hl : ws.length ≤ 9) : Z35 [plD o a ws] = .ok (Z2t (plC o a ws)) := by
  have h := Zei ho ha hg hl
  have x1 : dixG (plD o a ws) (.str "hands") = some (rowT (hs o a)) := rfl
  have x2 : dixG (plD o a ws) (.str "works") = some (.fdc []) := rfl
  have x3 : dixG (plD o a ws) (.str "puller") = some (.tup ((ws.map stP).map St.d)) := rfl
  have x4 : (or2 Zec Zed) [.fdc []] = some (.lst []) := rfl
  have k1 : ∀ (a : Str) (k : Key -> R Unit D), R.ky (.str a) k = k (.inr a) := fun _ _ => rfl
  have hh := Zhx o ho a ha
  unfold Z35
  simp only [x1, x2, x3, x4, lft_some, Zpk (Zdo o ho a ha) (by omega : sizes (hs o a) ≤ 1000), call_ok, k1]
  rw [if_pos (by simp)]
  rfl
def fwW : Option Fw -> List W
  | some .touched => [.touched]
  | some .used => [.used]
  | none => []
theorem addW (xs ys : List W) (h : xs.length + ys.length ≤ 10000) : addA (.lst (xs.map PW.wd)) (.lst (ys.map PW.wd)) = some (.lst ((xs ++ ys).map PW.wd)) := by
  rw [add_lst, if_pos (by rw [List.length_map, List.length_map]; omega), List.map_append]
theorem addM (xs ys : List Mv) (h : xs.length + ys.length ≤ 10000) : addA (.lst (xs.map mvD)) (.lst (ys.map mvD)) = some (.lst ((xs ++ ys).map mvD)) := by
  rw [add_lst, if_pos (by rw [List.length_map, List.length_map]; omega), List.map_append]
theorem repW (w : W) (b : Bool) : repG (.lst [PW.wd w]) (.int (if b = true then 1 else 0)) = some (.lst ((if b = true then [w] else []).map PW.wd)) := by
  rw [Zfp]; cases b <;> rfl
theorem Zi5 {c : Case} {s : Sta} {f : D -> D × D -> R Unit (DM.Step (D × D))} : ∀ (l : List Mv) (A : List W) (G : List Mv), A.length + l.length ≤ 2000 -> G.length + l.length ≤ 2000 ->
    (∀ m ∈ l, ∀ (A : List W) (G : List Mv), A.length ≤ 2000 -> G.length ≤ 2000 -> f (mvD m) (.lst (A.map PW.wd), .lst (G.map mvD)) = .ok (.nx (.lst ((A ++ fwW (fault c s m)).map PW.wd), .lst ((G ++ if (fault c s m).isNone = true then [m] else []).map mvD)))) ->
    ∃ (A' : List W) (G' : List Mv), R.for' (l.map mvD) (.lst (A.map PW.wd), .lst (G.map mvD)) f = .ok (.nx (.lst (A'.map PW.wd), .lst (G'.map mvD))) ∧ A'.length ≤ A.length + l.length ∧ (∀ w ∈ A', w ∈ A ∨ ∃ m ∈ l, ∃ f, fault c s m = some f ∧ w ∈ fwW (some f)) ∧ (∀ m ∈ G', m ∈ G ∨ (m ∈ l ∧ fault c s m = none)) ∧ G'.length ≤ G.length + l.length
  | [], A, G, _, _, _ => ⟨A, G, rfl, by simp, fun w hw => .inl hw, fun m hm => .inl hm, by simp⟩
  | m :: l, A, G, hA, hG, hf => by
    rw [List.length_cons] at hA hG
    have h0 := hf m List.mem_cons_self A G (by omega) (by omega)
    have hl1 : (fwW (fault c s m)).length ≤ 1 := by
      cases fault c s m with
      | none => exact Nat.zero_le _
      | some f => cases f <;> exact Nat.le_refl _
    have hl2 : (if (fault c s m).isNone = true then [m] else ([] : List Mv)).length ≤ 1 := by split <;> simp
    obtain ⟨A', G', e1, e2, e3, e4, e5⟩ := Zi5 (c := c) (s := s) (f := f) l (A ++ fwW (fault c s m)) (G ++ if (fault c s m).isNone = true then [m] else []) (by rw [List.length_append]; omega) (by rw [List.length_append]; omega) (fun m hm => hf m (List.mem_cons_of_mem _ hm))
    rw [List.length_append] at e2 e5
    refine ⟨A', G', ?_, by rw [List.length_cons]; omega, fun w hw => ?_, fun m' hm' => ?_, by rw [List.length_cons]; omega⟩
    · rw [List.map_cons, for_cons, h0, turn_nx]
      exact e1
    · rcases e3 w hw with h | ⟨m', hm', h⟩
      · rcases List.mem_append.mp h with h | h
        · exact .inl h
        · right
          refine ⟨m, List.mem_cons_self, ?_⟩
          cases q : fault c s m with
          | none => rw [q] at h; cases h
          | some f => rw [q] at h; exact ⟨f, rfl, h⟩
      · exact .inr ⟨m', List.mem_cons_of_mem _ hm', h⟩
    · rcases e4 m' hm' with h | ⟨h, h2⟩
      · rcases List.mem_append.mp h with h | h
        · exact .inl h
        · right
          split at h
          · rename_i q
            rw [List.mem_singleton.mp h]
            exact ⟨List.mem_cons_self, by simpa using q⟩
          · cases h
      · exact .inr ⟨List.mem_cons_of_mem _ h, h2⟩
def told (o a : W) (ws : List W) : List W := PW.fw (PW.touchA o a ws) (PW.usedF o ws) (PW.stuckF o a ws) (!decide (.let_ ∈ ws))
theorem Zo6 {o a : W} {ws : List W} (h : PW.touchA o a ws = true) : PW.Wd.touched ∈ told o a ws := by unfold told PW.fw; rw [h]; simp
theorem Zo5 {o a : W} {ws : List W} (h : PW.usedF o ws = true) : PW.Wd.used ∈ told o a ws := by unfold told PW.fw; rw [h]; simp
theorem Zo7 {o a : W} {ws : List W} (h : PW.stuckF o a ws = true) : PW.Wd.stuck ∈ told o a ws := by unfold told PW.fw; rw [h]; simp
theorem Zo8 {o a : W} {ws : List W} (h : PW.Wd.let_ ∉ ws) : PW.Wd.kept ∈ told o a ws := by unfold told PW.fw; rw [decide_eq_false h]; simp
theorem Zp9 {o a : W} {ws : List W} (ho : o ∈ ols) (ha : a ∈ als) (hg : PW.Good ws) (hl : ws.length ≤ 9) {p : D} (hp : Pool p) : ∃ (met : List W) (os : List D), Z1f [Z2t (plC o a ws), p] = .ok (.lst (met.map PW.wd), os) ∧ met.length ≤ 1000 ∧ ∀ w ∈ met, w ∈ told o a ws := by
  have hc := Zei ho ha hg hl
  have r60 : ∀ k : List D -> R Unit (D × List D), R.rng1 (.int 60) k = k (rngD 0 60) := fun k => Zef 60 (by omega) k
  unfold Z1f
  simp only [Zpf hc, call_ok]
  rw [few0, r60]
  have key := Zf4 (β := Unit) (S := D × D × D) (ds := rngD 0 60) (s := (p, stD (start (plC o a ws)), .lst [])) (f := fun d835 s834 => R.few [] fun l882 => R.few [(.str "stuck")] fun l880 => R.call (Z1w [Z2t (plC o a ws), s834.2.1]) () fun x837 => R.lft (Z4y [x837]) fun x838 => R.lft (repG (.lst l880) x838) fun x839 => R.lft (addA s834.2.2 x839) fun x840 => R.few [(.str "kept")] fun l881 => R.call (Z2j [Z2t (plC o a ws), s834.2.1]) () fun x841 => R.lft (Z4y [x841]) fun x842 => R.lft (repG (.lst l881) x842) fun x843 => R.lft (addA x840 x843) fun x844 => R.call (Z1x [Z2t (plC o a ws), s834.2.1, (.int 8)]) () fun x846 => R.items x846 fun l847 => R.after (R.for' l847 ((x844, (.lst l882)) : D × D) fun d850 s849 => R.call (Z14 [Z2t (plC o a ws), s834.2.1, d850]) () fun x851 => R.few [x851] fun l864 => R.lft (Z4u x851 .non) fun x853 => R.lft (Z4y [x853]) fun x854 => R.lft (repG (.lst l864) x854) fun x855 => R.lft (addA s849.1 x855) fun x856 => R.few [d850] fun l863 => R.lft (isNG x851 .non) fun x858 => R.lft (Z4y [x858]) fun x859 => R.lft (repG (.lst l863) x859) fun x860 => R.lft (addA s849.2 x860) fun x861 => R.ok (DM.Step.nx ((x856, x861) : D × D))) (fun s865 => R.few [] fun l877 => R.lft (neG s865.2 (.lst l877)) fun x866 => R.asB x866 fun b867 => if b867 then R.call1e (Z18 [s834.1, s865.2]) () fun x873 w875 => R.call (Zy [Z2t (plC o a ws), s834.2.1, x873]) () fun x869 => R.ok (DM.Step.nx ((w875, x869, s865.1) : D × D × D)) else R.ok (DM.Step.nx ((s834.1, s834.2.1, s865.1) : D × D × D))) fun d879 s878 => R.ok (DM.Step.rt d879 ((s834.1, s834.2.1, s878.1) : D × D × D)))
    (I := fun i s => ∃ (w : D) (t : Sta) (ms : List W), s = (w, stD t, .lst (ms.map PW.wd)) ∧ Pool w ∧ Good (plC o a ws) t ∧ Inv o a ws t ∧ ms.length ≤ 16 * i ∧ ∀ w ∈ ms, w ∈ told o a ws) 0 ⟨p, start (plC o a ws), [], rfl, hp, Good.start, Inv.start, Nat.zero_le _, fun w hw => (nomatch hw)⟩ (fun i d hd s hs => by
    rw [Nat.zero_add] at hs ⊢
    have hi60 : i < 60 := by
      have := (List.getElem?_eq_some_iff.mp hd).1
      rwa [Zgv] at this
    obtain ⟨w, t, ms, rfl, hw, g, iv, hml, hmt⟩ := hs
    have v := gvs hc g
    have P : Pl o a ws t := ⟨ho, ha, hg, g.v⟩
    have l8 := Zpd v 8
    rw [show (.int ((8 : Nat) : Int) : D) = .int 8 from rfl] at l8
    have hl14 := Zmp v 8
    simp only [few0, few1, Zpc v, Zri v, call_ok, int_bl, lft_some]
    rw [show D.str "stuck" = PW.wd .stuck from rfl, show D.str "kept" = PW.wd .kept from rfl, repW, lft_some, addW _ _ (by split <;> simp <;> omega), lft_some, repW, lft_some, addW _ _ (by rw [List.length_append]; split <;> split <;> simp <;> omega), lft_some, l8, call_ok, items_lst]
    generalize hA : ms ++ (if stuck (plC o a ws) t = true then [PW.Wd.stuck] else []) ++ (if kept (plC o a ws) t = true then [PW.Wd.kept] else []) = A
    have hAl : A.length ≤ ms.length + 2 := by subst hA; rw [List.length_append, List.length_append]; split <;> split <;> simp
    have hAt : ∀ w ∈ A, w ∈ told o a ws := fun w hw => by
      subst hA
      rcases List.mem_append.mp hw with hw | hw
      · rcases List.mem_append.mp hw with hw | hw
        · exact hmt w hw
        · split at hw
          · rename_i q
            rw [List.mem_singleton.mp hw]
            exact Zo7 (Zne P iv q)
          · cases hw
      · split at hw
        · rename_i q
          rw [List.mem_singleton.mp hw]
          exact Zo8 (Zqg P iv q)
        · cases hw
    obtain ⟨A', G', e1, e2, e3, e4, e5⟩ := Zi5 (c := plC o a ws) (s := t) (f := fun d850 s849 => R.call (Z14 [Z2t (plC o a ws), stD t, d850]) () fun x851 => R.lft (Z4u x851 .non) fun x853 => R.lft (Z4y [x853]) fun x854 => R.lft (repG (.lst [x851]) x854) fun x855 => R.lft (addA s849.1 x855) fun x856 => R.lft (isNG x851 .non) fun x858 => R.lft (Z4y [x858]) fun x859 => R.lft (repG (.lst [d850]) x859) fun x860 => R.lft (addA s849.2 x860) fun x861 => R.ok (DM.Step.nx ((x856, x861) : D × D))) (mvs (plC o a ws) t 8) A [] (by omega) (by simp; omega) (fun m hm A G hA hG => by
      have hn : ∀ f : Option Fw, Z4u (fwD f) .non = some (.bl f.isSome) := fun f => by
        cases f with
        | none => rfl
        | some f => cases f <;> rfl
      have hr : ∀ f : Option Fw, repG (.lst [fwD f]) (.int (if f.isSome = true then 1 else 0)) = some (.lst ((fwW f).map PW.wd)) := fun f => by
        rw [Zfp]
        cases f with
        | none => rfl
        | some f => cases f <;> rfl
      have hl1 : (fwW (fault (plC o a ws) t m)).length ≤ 1 := by
        cases fault (plC o a ws) t m with
        | none => exact Nat.zero_le _
        | some f => cases f <;> exact Nat.le_refl _
      simp only [Zpg v (Zhf hm), call_ok, few1, hn, lft_some, int_bl, hr, Zpo]
      rw [addW _ _ (by omega), lft_some, Zfp]
      cases q : (fault (plC o a ws) t m).isNone
      · simp only [Bool.false_eq_true, if_false, lft_some]
        rw [show (.lst [] : D) = .lst (([] : List Mv).map mvD) from rfl, addM _ _ (by simp; omega), lft_some]
      · simp only [if_true, lft_some]
        rw [show (.lst [mvD m] : D) = .lst (([m] : List Mv).map mvD) from rfl, addM _ _ (by simp; omega), lft_some])
    have e1' : R.for' ((mvs (plC o a ws) t 8).map mvD) ((D.lst (A.map PW.wd), D.lst []) : D × D) _ = _ := e1
    rw [e1', after_nx]
    simp only [few0, Z7z (n := 1) encM.ok encM.dep (by decide), lft_some, asB_bl]
    have hA't : ∀ w ∈ A', w ∈ told o a ws := fun w hw => by
      rcases e3 w hw with h | ⟨m, hm, f, hf, h⟩
      · exact hAt w h
      · obtain ⟨k1, k2⟩ := Znf P iv (Zhf hm) hf
        cases f with
        | touched => rw [List.mem_singleton.mp h]; exact Zo6 (k1 rfl)
        | used => rw [List.mem_singleton.mp h]; exact Zo5 (k2 rfl)
    cases hz : G' with
    | nil => exact ⟨_, rfl, w, t, A', rfl, hw, g, iv, by omega, hA't⟩
    | cons z zs =>
      rw [if_pos (by rfl : (!(z :: zs).isEmpty) = true)]
      obtain ⟨m, w5, a5, hm, hw5⟩ := pck (e := mvD) (xs := z :: zs) hw (by simp)
      rcases e4 m (by rw [hz]; exact hm) with h | ⟨hm8, hf⟩
      · cases h
      · rw [a5, call1e_ok, Zpl v (Zhf hm8), call_ok]
        exact ⟨_, rfl, w5, _, A', rfl, hw5, g.after hc (Zhf hm8), iv.after P (Zhf hm8) hf, by omega, hA't⟩)
  obtain ⟨s', e, w, t, ms, rfl, _, _, _, h1, h2⟩ := key
  rw [Nat.zero_add, Zgv] at h1
  rw [e, after_nx]
  exact ⟨ms, _, rfl, by omega, h2⟩
end K56
namespace K56
open PySem DM PL RR SC PB
open L2 hiding It St PS
theorem Zjy (n : Int) (ns : List Int) : ixG (.lst ((n :: ns).map D.int)) (.int 0) = some (.int n) := Zdn D.int (xs := n :: ns) (i := 0) rfl
theorem Zk8 {β γ : Type} (d : D) (os : List D) (xb : β) (k : D -> R β γ) : R.callL (.ok (d, os)) xb k = k d := rfl
theorem law_holds (ns : List Int) (hl : ns.length ≤ 63) : m_law [.lst (ns.map .int)] = .ok (.bl true) := by
  have e0 : neG (.lst (ns.map D.int)) (.lst []) = some (.bl (!decide (ns = []))) := enc_int.lst.neG (by decide) ns []
  have hx : ∃ x : Int, (R.few [] fun l55 => R.lft (neG (.lst (ns.map D.int)) (.lst l55)) fun x2 => R.asB x2 fun b3 => if b3 then R.lft (ixG (.lst (ns.map D.int)) (.int 0)) fun x4 => R.ok x4 else R.ok (.int 7) : R Unit D) = .ok (.int x) := by
    rw [few0, e0, lft_some, asB_bl]
    cases ns with
    | nil => exact ⟨7, rfl⟩
    | cons n ns => exact ⟨n, by rw [decide_eq_false (by simp), Bool.not_false, if_pos rfl, Zjy]; rfl⟩
  obtain ⟨x, ex⟩ := hx
  unfold m_law
  simp only
  rw [ex, bind_ok]
  obtain ⟨p, e1, hp⟩ := Zh3 x 5600 60 (by omega) (by decide)
  have e1' : Z2i [.int x, .int 5600, .int 60] = R.ok p := e1
  obtain ⟨o, a, p1, e2, ho, ha, hp1⟩ := Q.kinds_ok hp
  obtain ⟨ws, p2, e3, hg, hl8, hp2⟩ := Q.words_ok hp1
  have e4 := Q.of_ok ho ha hg (by omega : ws.length ≤ 100)
  have e5 := Q.faults_ok o a ws
  have e6 := Zmc ho ha hg (by omega : ws.length ≤ 9)
  have e7 := Znd ho ha hg (by omega : ws.length ≤ 9)
  have mf : ∀ k : (List D -> R Unit D) -> R Unit D, Zi Z70 "faults" (Q.P o a ws) k = k Z29 := fun _ => rfl
  have e8 : cutD (ns.map D.int) (some ((1 : Nat) : Int)) (some ((4 : Nat) : Int)) = ((ns.take 4).drop 1).map D.int := by rw [Zih, List.map_drop, List.map_take]
  have e8' : cutD (ns.map D.int) (some (1 : Int)) (some (4 : Int)) = ((ns.take 4).drop 1).map D.int := e8
  have e9 : ∀ b : Bool, repG (.lst [.int 5]) (.int (if b = true then 1 else 0)) = some (.lst ((if b = true then [(5 : Int)] else []).map D.int)) := fun b => by rw [Zfp]; cases b <;> rfl
  have tl : ∀ (u v : D) (k : D -> D -> R Unit D), R.tup2 (.lst [u, v]) k = k u v := fun _ _ _ => rfl
  simp only [tl, e1', call_ok, e2, call1e_ok, few2, tup2_tup, e3, e4, mf, e5, e6, e7, asI_int, PL.sl_lst, e8', lft_some, few1, len_lst, lt_int, int_bl, e9]
  rw [add_lst, if_pos (by rw [List.length_map, List.length_map]; simp; split <;> simp <;> omega), lft_some, ← List.map_append, Zie, Zb1, after_nx]
  intro i y hi
  have hil := (List.getElem?_eq_some_iff.mp hi).1
  obtain ⟨q, f1, hq⟩ := Zh3 y (5610 + (i : Int)) 70 (by
    rw [List.length_append, List.length_drop, List.length_take] at hil
    have h1 : ∀ b : Bool, (if b = true then [(5 : Int)] else []).length ≤ 1 := fun b => by cases b <;> simp
    have := h1 (decide (((ns.map D.int).length : Int) < 2))
    omega) (by decide)
  have f1' : Z2i [.int y, .int (5610 + (i : Int)), .int 70] = R.ok q := f1
  obtain ⟨met, os, f2, f3, f4⟩ := Zp9 ho ha hg (by omega : ws.length ≤ 9) hq
  simp only [tup2_tup, add_int, lft_some, f1', call_ok, f2]
  rw [Zk8, items_lst, Z4d _ _ (by rw [List.length_map]; exact f3), Z3t (g := fun _ => none) (fun w hw => by
    have : Z39 (PW.wd w) (.lst ((told o a ws).map PW.wd)) = some (.bl (!decide (w ∈ told o a ws))) := PW.niWl w _
    unfold told at this f4
    rw [this, decide_eq_true (f4 w hw)]; rfl), lst_ok]
  rw [show (met.filterMap fun _ => (none : Option D)) = [] by simp]
  rfl
end K56
namespace K56
open PySem PySem.Spec PyProof.Rows L2 DL DM NdefX
theorem Zqk {l : PySem.W.OpenLaw} {w : World} {K : PySem.W.Frag} {h : Heap} {mg : Str -> Option Value} {fa : Addr} {c_Plain f_require_pull f_Plain_ahead f_Plain_behind f_Plain_gaps f_Plain_openings f_Plain_uses_behind_let f_Plain_is_stuck f_Plain_is_touched f_Plain_is_used f_Plain_faults f_wrong_pull f_Plain___init__ f_Plain_of : Addr} {fd_require_pull fd_Plain_ahead fd_Plain_behind fd_Plain_gaps fd_Plain_openings fd_Plain_uses_behind_let fd_Plain_is_stuck fd_Plain_is_touched fd_Plain_is_used fd_Plain_faults fd_wrong_pull fd_Plain___init__ : FuncData} {Hp_Plain_of : Addr} {Hrs_Plain_of : List Value} {fd_Plain_of : FuncData} {f__law_flags : Addr} {fd__law_flags : FuncData} {f__law_laid : Addr} {fd__law_laid : FuncData} {f__law_case : Addr} {fd__law_case : FuncData} {f__law_draw : Addr} {fd__law_draw : FuncData} {f__law_pick : Addr} {fd__law_pick : FuncData} {f__law_kinds : Addr} {fd__law_kinds : FuncData} {f__law_plain_row : Addr} {fd__law_plain_row : FuncData} {f__law_plain_steps : Addr} {fd__law_plain_steps : FuncData} {f__law_plain_plan : Addr} {fd__law_plain_plan : FuncData} {f__law_numbers : Addr} {fd__law_numbers : FuncData} {f__law_pool : Addr} {fd__law_pool : FuncData} {f__law_pull_words : Addr} {fd__law_pull_words : FuncData} {f__law_done : Addr} {fd__law_done : FuncData} {f__law_freed : Addr} {fd__law_freed : FuncData} {f__law_later : Addr} {fd__law_later : FuncData} {f__law_started : Addr} {fd__law_started : FuncData} {f__law_gone : Addr} {fd__law_gone : FuncData} {f__law_ran : Addr} {fd__law_ran : FuncData} {f__law_after : Addr} {fd__law_after : FuncData} {f__law_item : Addr} {fd__law_item : FuncData} {f__law_fault : Addr} {fd__law_fault : FuncData} {f__law_first : Addr} {fd__law_first : FuncData} {f__law_kept : Addr} {fd__law_kept : FuncData} {f__law_here : Addr} {fd__law_here : FuncData} {f__law_pulls : Addr} {fd__law_pulls : FuncData} {f__law_waits : Addr} {fd__law_waits : FuncData} {f__law_moves : Addr} {fd__law_moves : FuncData} {f__law_stuck : Addr} {fd__law_stuck : FuncData} {f__law_words_met : Addr} {fd__law_words_met : FuncData} {f_law : Addr} {fd_law : FuncData} (X : K.In h) (G : h.Ns mainGlobals mg) (hfa : mg "law" = some (.ref fa))
 (Ha_Plain : nG K "Plain" c_Plain)
 (Hpg_Plain : PySem.W.plainGet K c_Plain Str.empty = true)
 (Hhd_Plain : PySem.W.hasDictIn K c_Plain = true)
 (Hpo_Plain : PySem.W.plainOver K c_Plain = true)
 (Hsa_Plain : fB K c_Plain "__setattr__" "object.__setattr__")
 (Hn_Plain_own_asks : fN K c_Plain "own_asks")
 (Hn_Plain_own_opens : fN K c_Plain "own_opens")
 (Hn_Plain_own_pulls : fN K c_Plain "own_pulls")
 (Ha_require_pull : nG K "require_pull" f_require_pull)
 (F_require_pull : Fu K "require_pull" Z3p f_require_pull fd_require_pull)
 (Hm_Plain_ahead : fI K c_Plain "ahead" f_Plain_ahead)
 (Hi_Plain_ahead : iF K f_Plain_ahead = true)
 (F_Plain_ahead : Fun K "ahead" "Plain.ahead" Z42 f_Plain_ahead fd_Plain_ahead)
 (Hm_Plain_behind : fI K c_Plain "behind" f_Plain_behind)
 (Hi_Plain_behind : iF K f_Plain_behind = true)
 (F_Plain_behind : Fun K "behind" "Plain.behind" Z3s f_Plain_behind fd_Plain_behind)
 (Hm_Plain_gaps : fI K c_Plain "gaps" f_Plain_gaps)
 (Hi_Plain_gaps : iF K f_Plain_gaps = true)
 (F_Plain_gaps : Fun K "gaps" "Plain.gaps" Z4p f_Plain_gaps fd_Plain_gaps)
 (Hm_Plain_openings : fI K c_Plain "openings" f_Plain_openings)
 (Hi_Plain_openings : iF K f_Plain_openings = true)
 (F_Plain_openings : Fun K "openings" "Plain.openings" Z30 f_Plain_openings fd_Plain_openings)
 (Hm_Plain_uses_behind_let : fI K c_Plain "uses_behind_let" f_Plain_uses_behind_let)
 (Hi_Plain_uses_behind_let : iF K f_Plain_uses_behind_let = true)
 (F_Plain_uses_behind_let : Fun K "uses_behind_let" "Plain.uses_behind_let" Zt f_Plain_uses_behind_let fd_Plain_uses_behind_let)
 (Hm_Plain_is_stuck : fI K c_Plain "is_stuck" f_Plain_is_stuck)
 (Hi_Plain_is_stuck : iF K f_Plain_is_stuck = true)
 (F_Plain_is_stuck : Fun K "is_stuck" "Plain.is_stuck" Z31 f_Plain_is_stuck fd_Plain_is_stuck)
 (Hm_Plain_is_touched : fI K c_Plain "is_touched" f_Plain_is_touched)
 (Hi_Plain_is_touched : iF K f_Plain_is_touched = true)
 (F_Plain_is_touched : Fun K "is_touched" "Plain.is_touched" Z2c f_Plain_is_touched fd_Plain_is_touched)
 (Hm_Plain_is_used : fI K c_Plain "is_used" f_Plain_is_used)
 (Hi_Plain_is_used : iF K f_Plain_is_used = true)
 (F_Plain_is_used : Fun K "is_used" "Plain.is_used" Z2e f_Plain_is_used fd_Plain_is_used)
 (Hm_Plain_faults : fI K c_Plain "faults" f_Plain_faults)
 (Hi_Plain_faults : iF K f_Plain_faults = true)
 (F_Plain_faults : Fun K "faults" "Plain.faults" Z27 f_Plain_faults fd_Plain_faults)
 (Ha_wrong_pull : nG K "wrong_pull" f_wrong_pull)
 (F_wrong_pull : Fu K "wrong_pull" Z4i f_wrong_pull fd_wrong_pull)
 (Hm_Plain___init__ : fI K c_Plain "__init__" f_Plain___init__)
 (Hi_Plain___init__ : iF K f_Plain___init__ = true)
 (Hmk_Plain : PySem.W.makesIn K c_Plain = true)
 (Hkc_Plain : PySem.W.keepIn K (.ref c_Plain) = true)
 (F_Plain___init__ : Fun K "__init__" "Plain.__init__" Z32 f_Plain___init__ fd_Plain___init__)
 (Hrd_Plain_of : PySem.W.readsIn K c_Plain (.type "type") = true)
 (Hga_Plain_of : PySem.W.specialIn K (.ref c_Plain) "__getattribute__" = some (some (.builtin "type.__getattribute__")))
 (Hat_Plain_of : PySem.W.findCls K (.ref c_Plain) (.type "type") "of" = some (.get (.builtin "staticmethod.__get__") (.ref Hp_Plain_of) .none (.ref c_Plain)))
 (Hrc_Plain_of : PySem.W.recIn K Hp_Plain_of "staticmethod" = some (.ref f_Plain_of :: Hrs_Plain_of))
 (F_Plain_of : Fun K "of" "Plain.of" Z62 f_Plain_of fd_Plain_of)
 (Ha__law_flags : nG K "_law_flags" f__law_flags)
 (F__law_flags : Fu K "_law_flags" Z4m f__law_flags fd__law_flags)
 (Ha__law_laid : nG K "_law_laid" f__law_laid)
 (F__law_laid : Fu K "_law_laid" Z59 f__law_laid fd__law_laid)
 (Ha__law_case : nG K "_law_case" f__law_case)
 (F__law_case : Fu K "_law_case" Z48 f__law_case fd__law_case)
 (Ha__law_draw : nG K "_law_draw" f__law_draw)
 (F__law_draw : Fu K "_law_draw" Z5d f__law_draw fd__law_draw)
 (Ha__law_pick : nG K "_law_pick" f__law_pick)
 (F__law_pick : Fu K "_law_pick" Z58 f__law_pick fd__law_pick)
 (Ha__law_kinds : nG K "_law_kinds" f__law_kinds)
 (F__law_kinds : Fu K "_law_kinds" Z4l f__law_kinds fd__law_kinds)
 (Ha__law_plain_row : nG K "_law_plain_row" f__law_plain_row)
 (F__law_plain_row : Fu K "_law_plain_row" Z2z f__law_plain_row fd__law_plain_row)
 (Ha__law_plain_steps : nG K "_law_plain_steps" f__law_plain_steps)
 (F__law_plain_steps : Fu K "_law_plain_steps" Z1k f__law_plain_steps fd__law_plain_steps)
 (Ha__law_plain_plan : nG K "_law_plain_plan" f__law_plain_plan)
 (F__law_plain_plan : Fu K "_law_plain_plan" Z2q f__law_plain_plan fd__law_plain_plan)
 (Ha__law_numbers : nG K "_law_numbers" f__law_numbers)
 (F__law_numbers : Fu K "_law_numbers" Z3r f__law_numbers fd__law_numbers)
 (Ha__law_pool : nG K "_law_pool" f__law_pool)
 (F__law_pool : Fu K "_law_pool" Z57 f__law_pool fd__law_pool)
 (Ha__law_pull_words : nG K "_law_pull_words" f__law_pull_words)
 (F__law_pull_words : Fu K "_law_pull_words" Z2p f__law_pull_words fd__law_pull_words)
 (Ha__law_done : nG K "_law_done" f__law_done)
 (F__law_done : Fu K "_law_done" Z5e f__law_done fd__law_done)
 (Ha__law_freed : nG K "_law_freed" f__law_freed)
 (F__law_freed : Fu K "_law_freed" Z3w f__law_freed fd__law_freed)
 (Ha__law_later : nG K "_law_later" f__law_later)
 (F__law_later : Fu K "_law_later" Z4k f__law_later fd__law_later)
 (Ha__law_started : nG K "_law_started" f__law_started)
 (F__law_started : Fu K "_law_started" Z3q f__law_started fd__law_started)
 (Ha__law_gone : nG K "_law_gone" f__law_gone)
 (F__law_gone : Fu K "_law_gone" Z5c f__law_gone fd__law_gone)
 (Ha__law_ran : nG K "_law_ran" f__law_ran)
 (F__law_ran : Fu K "_law_ran" Z61 f__law_ran fd__law_ran)
 (Ha__law_after : nG K "_law_after" f__law_after)
 (F__law_after : Fu K "_law_after" Z4o f__law_after fd__law_after)
 (Ha__law_item : nG K "_law_item" f__law_item)
 (F__law_item : Fu K "_law_item" Z5b f__law_item fd__law_item)
 (Ha__law_fault : nG K "_law_fault" f__law_fault)
 (F__law_fault : Fu K "_law_fault" Z4n f__law_fault fd__law_fault)
 (Ha__law_first : nG K "_law_first" f__law_first)
 (F__law_first : Fu K "_law_first" Z3x f__law_first fd__law_first)
 (Ha__law_kept : nG K "_law_kept" f__law_kept)
 (F__law_kept : Fu K "_law_kept" Z5a f__law_kept fd__law_kept)
 (Ha__law_here : nG K "_law_here" f__law_here)
 (F__law_here : Fu K "_law_here" Z47 f__law_here fd__law_here)
 (Ha__law_pulls : nG K "_law_pulls" f__law_pulls)
 (F__law_pulls : Fu K "_law_pulls" Z3v f__law_pulls fd__law_pulls)
 (Ha__law_waits : nG K "_law_waits" f__law_waits)
 (F__law_waits : Fu K "_law_waits" Z2d f__law_waits fd__law_waits)
 (Ha__law_moves : nG K "_law_moves" f__law_moves)
 (F__law_moves : Fu K "_law_moves" Z4j f__law_moves fd__law_moves)
 (Ha__law_stuck : nG K "_law_stuck" f__law_stuck)
 (F__law_stuck : Fu K "_law_stuck" Z1j f__law_stuck fd__law_stuck)
 (Ha__law_words_met : nG K "_law_words_met" f__law_words_met)
 (F__law_words_met : Fu K "_law_words_met" Z2y f__law_words_met fd__law_words_met)
 (Ha_law : nG K "law" f_law)
 (F_law : Fu K "law" Zbt f_law fd_law)
 (Hz_any : nN K "any")
 (Hz_enumerate : nN K "enumerate")
 (Hz_int : nN K "int")
 (Hz_isinstance : nN K "isinstance")
 (Hz_len : nN K "len")
 (Hz_list : nN K "list")
 (Hz_max : nN K "max")
 (Hz_min : nN K "min")
 (Hz_range : nN K "range")
 (Hz_set : nN K "set")
 (Hz_sorted : nN K "sorted")
 (Hz_str : nN K "str")
 (Hz_tuple : nN K "tuple")
 (Hz_zip : nN K "zip")
 (Hg_DOWN : GlobD K mg "DOWN" gDOWN)
 (Hg_EMPTY : GlobD K mg "EMPTY" gEMPTY)
 (Hg_KEPT : GlobD K mg "KEPT" gKEPT)
 (Hg_LET : GlobD K mg "LET" gLET)
 (Hg_LOCK : GlobD K mg "LOCK" gLOCK)
 (Hg_MARK : GlobD K mg "MARK" gMARK)
 (Hg_OUT : GlobD K mg "OUT" gOUT)
 (Hg_PULLS : GlobD K mg "PULLS" gPULLS)
 (Hg_STUCK : GlobD K mg "STUCK" gSTUCK)
 (Hg_TOUCHED : GlobD K mg "TOUCHED" gTOUCHED)
 (Hg_UNLOCK : GlobD K mg "UNLOCK" gUNLOCK)
 (Hg_USED : GlobD K mg "USED" gUSED)
 (Hg_WAIT : GlobD K mg "WAIT" gWAIT)
 (Hkd_ASKS : KdC K w mg "ASKS" kASKS)
 (Hkd_OPENS : KdC K w mg "OPENS" kOPENS)
 (Hx_InvalidOption : ErrC l.prog K mg "InvalidOption" ["value"])
 (Hx_InvalidStep : ErrC l.prog K mg "InvalidStep" ["index"])
 (Hx_UnknownName : ErrC l.prog K mg "UnknownName" ["name"]) :
    ∃ fd : FuncData, (∀ (s : Shared) (v : Value), BindsTo s fd ⟨[v], []⟩ [("_law_script", v)]) ∧ ∀ base : Heap, K.In base -> base.Ns mainGlobals mg -> FnG l.prog w K mg base (L2.CX l.prog w) 9 fa fd ["_law_script"] (spM K (mk0 1) none (Lp m_law)) := by
  have MG : ∀ {n : Str} {v : Value}, PySem.W.nsIn K mainGlobals n = some (some v) -> mg n = some v := PySem.W.mg_of X G
  have MN : ∀ {n : Str}, nN K n -> mg n = none := PySem.W.mg_none_of X G
  have e := hfa.symm.trans (MG Ha_law)
  cases e
  have cls_Plain : Cls K c_Plain := ⟨Hpg_Plain, Hhd_Plain, Hpo_Plain, Hsa_Plain⟩
  have ff_own_asks : ∀ C, Z23 C = true -> FldC K C "own_asks" := (Ze0 (Zi8 Ha_Plain cls_Plain Hn_Plain_own_asks))
  have ff_own_opens : ∀ C, Z1z C = true -> FldC K C "own_opens" := (Ze0 (Zi8 Ha_Plain cls_Plain Hn_Plain_own_opens))
  have ff_own_pulls : ∀ C, Zb C = true -> FldC K C "own_pulls" := (Ze0 (Zi8 Ha_Plain cls_Plain Hn_Plain_own_pulls))
  have T : Txt l.prog w K mg := ⟨MN Hz_any, MN Hz_enumerate, MN Hz_int, MN Hz_isinstance, MN Hz_len, MN Hz_list, MN Hz_max, MN Hz_min, MN Hz_range, MN Hz_set, MN Hz_sorted, MN Hz_str, MN Hz_tuple, MN Hz_zip, Hg_DOWN, Hg_EMPTY, Hg_KEPT, Hg_LET, Hg_LOCK, Hg_MARK, Hg_OUT, Hg_PULLS, Hg_STUCK, Hg_TOUCHED, Hg_UNLOCK, Hg_USED, Hg_WAIT, Hkd_ASKS, Hkd_OPENS, ff_own_asks, ff_own_opens, ff_own_pulls, Hx_InvalidOption, Hx_InvalidStep, Hx_UnknownName⟩
  obtain ⟨oc_Plain___init__, od_Plain___init__, kV_Plain___init__, dc_Plain___init__, pm_Plain___init__, an_Plain___init__, cd_Plain___init__, ct_Plain___init__, sl_Plain___init__, rfl, hl1_Plain___init__, hl2_Plain___init__⟩ := F_Plain___init__.ex
  obtain ⟨oc_law, od_law, kV_law, dc_law, pm_law, an_law, cd_law, ct_law, sl_law, rfl, hl1, hl2⟩ := F_law.ex
  refine ⟨PySem.W.fnOf "law" "law" (defArgs Zbt) (defBody Zbt) (defScope Zbt) .none kV_law dc_law pm_law an_law cd_law ct_law, fun s v => .of_eq rfl, fun base _ _ => ?_⟩
  have d_require_pull : Dfn l.prog w K mg base 2 "require_pull" (mk0 1) none (Lp Z28) := ⟨f_require_pull, _, ["word"], Z8p F_require_pull T, MG Ha_require_pull, F_require_pull.kp, (F_require_pull.binds (ps := ["word"]) fun | _, _, _, _, _, _, [_], _ => rfl)⟩
  have d_m_ahead : ∀ C mf, Zn C = some mf -> MethC l.prog w K mg base 3 C "ahead" none mf := (Z5j (Z5h Ha_Plain cls_Plain ⟨Hm_Plain_ahead, Hi_Plain_ahead, F_Plain_ahead.kp⟩ (PrP.up (Z2u (n := 2) (Z9k F_Plain_ahead T d_require_pull) (F_Plain_ahead.binds (ps := ["self", "word"]) fun | _, _, _, _, _, _, [_, _], _ => rfl) Zav) rfl)) Z44)
  have d_m_behind : ∀ C mf, Z1l C = some mf -> MethC l.prog w K mg base 4 C "behind" none mf := (Z5j (Z5h Ha_Plain cls_Plain ⟨Hm_Plain_behind, Hi_Plain_behind, F_Plain_behind.kp⟩ (PrP.up (Z2u (n := 2) (Z8t F_Plain_behind T d_m_ahead) (F_Plain_behind.binds (ps := ["self", "word"]) fun | _, _, _, _, _, _, [_, _], _ => rfl) Z9r) rfl)) Z44)
  have d_m_gaps : ∀ C mf, Z5s C = some mf -> MethC l.prog w K mg base 5 C "gaps" none mf := (Z5j (Z5h Ha_Plain cls_Plain ⟨Hm_Plain_gaps, Hi_Plain_gaps, F_Plain_gaps.kp⟩ (PrP.up (Z2u (n := 1) (Zao F_Plain_gaps T d_m_ahead d_m_behind) (F_Plain_gaps.binds (ps := ["self"]) fun | _, _, _, _, _, _, [_], _ => rfl) Zco) rfl)) Z44)
  have d_m_openings : ∀ C mf, Z3j C = some mf -> MethC l.prog w K mg base 6 C "openings" none mf := (Z5j (Z5h Ha_Plain cls_Plain ⟨Hm_Plain_openings, Hi_Plain_openings, F_Plain_openings.kp⟩ (PrP.up (Z2u (n := 1) (Z7g F_Plain_openings T d_m_ahead d_m_behind d_m_gaps) (F_Plain_openings.binds (ps := ["self"]) fun | _, _, _, _, _, _, [_], _ => rfl) Z88) rfl)) Z44)
  have d_m_uses_behind_let : ∀ C mf, Z16 C = some mf -> MethC l.prog w K mg base 4 C "uses_behind_let" none mf := (Z5j (Z5h Ha_Plain cls_Plain ⟨Hm_Plain_uses_behind_let, Hi_Plain_uses_behind_let, F_Plain_uses_behind_let.kp⟩ (PrP.up (Z2u (n := 1) (Z51 F_Plain_uses_behind_let T d_m_ahead) (F_Plain_uses_behind_let.binds (ps := ["self"]) fun | _, _, _, _, _, _, [_], _ => rfl) Z5i) rfl)) Z44)
  have d_m_is_stuck : ∀ C mf, Z5g C = some mf -> MethC l.prog w K mg base 7 C "is_stuck" none mf := (Z5j (Z5h Ha_Plain cls_Plain ⟨Hm_Plain_is_stuck, Hi_Plain_is_stuck, F_Plain_is_stuck.kp⟩ (PrP.up (Z2u (n := 1) (Z7h F_Plain_is_stuck T d_m_ahead d_m_openings d_m_uses_behind_let) (F_Plain_is_stuck.binds (ps := ["self"]) fun | _, _, _, _, _, _, [_], _ => rfl) Z89) rfl)) Z44)
  have d_m_is_touched : ∀ C mf, Z45 C = some mf -> MethC l.prog w K mg base 6 C "is_touched" none mf := (Z5j (Z5h Ha_Plain cls_Plain ⟨Hm_Plain_is_touched, Hi_Plain_is_touched, F_Plain_is_touched.kp⟩ (PrP.up (Z2u (n := 3) (Z6m F_Plain_is_touched T d_m_ahead d_m_behind d_m_gaps) (F_Plain_is_touched.binds (ps := ["self", "lowest", "highest"]) fun | _, _, _, _, _, _, [_, _, _], _ => rfl) Z74) rfl)) Z44)
  have d_m_is_used : ∀ C mf, Z64 C = some mf -> MethC l.prog w K mg base 6 C "is_used" none mf := (Z5j (Z5h Ha_Plain cls_Plain ⟨Hm_Plain_is_used, Hi_Plain_is_used, F_Plain_is_used.kp⟩ (PrP.up (Z2u (n := 1) (Z86 F_Plain_is_used T d_m_ahead d_m_behind d_m_gaps d_m_uses_behind_let) (F_Plain_is_used.binds (ps := ["self"]) fun | _, _, _, _, _, _, [_], _ => rfl) Z92) rfl)) Z44)
  have d_wrong_pull : Dfn l.prog w K mg base 1 "wrong_pull" (mk0 1) none (Lp Z2h) := ⟨f_wrong_pull, _, ["pulls"], Zac F_wrong_pull T, MG Ha_wrong_pull, F_wrong_pull.kp, (F_wrong_pull.binds (ps := ["pulls"]) fun | _, _, _, _, _, _, [_], _ => rfl)⟩
  have d_Plain : MakeC l.prog w K mg base 2 "Plain" [] Z25 := ⟨c_Plain, f_Plain___init__, MG Ha_Plain, Ha_Plain, ⟨Hmk_Plain, Hm_Plain___init__, Hi_Plain___init__, Hkc_Plain⟩, (Zjc F_Plain___init__ (ps := ["self", "opens", "asks"]) (pv := "pulls") sc_Plain___init__ rfl (Zg6 (B := fun z => bindArgs _ ⟨z, []⟩) (fun a b c => rfl) (fun a b c _ _ => rfl)) (Z7i T d_wrong_pull))⟩
  have d__law_flags : Dfn l.prog w K mg base 1 "_law_flags" (mk0 2) none (Lp Z1b) := ⟨f__law_flags, _, ["_law_flags_here", "_law_item_here"], Zak F__law_flags T, MG Ha__law_flags, F__law_flags.kp, (F__law_flags.binds (ps := ["_law_flags_here", "_law_item_here"]) fun | _, _, _, _, _, _, [_, _], _ => rfl)⟩
  have d__law_laid : Dfn l.prog w K mg base 2 "_law_laid" (mk0 1) none (Lp Z20) := ⟨f__law_laid, _, ["_law_items"], Zbz F__law_laid T d__law_flags, MG Ha__law_laid, F__law_laid.kp, (F__law_laid.binds (ps := ["_law_items"]) fun | _, _, _, _, _, _, [_], _ => rfl)⟩
  have d__law_draw : Dfn l.prog w K mg base 1 "_law_draw" (some [] :: mk0 1) none (L1e Zo) := ⟨f__law_draw, _, ["_law_pool_here", "_law_many"], Zc4 F__law_draw T, MG Ha__law_draw, F__law_draw.kp, (F__law_draw.binds (ps := ["_law_pool_here", "_law_many"]) fun | _, _, _, _, _, _, [_, _], _ => rfl)⟩
  have d__law_pick : Dfn l.prog w K mg base 2 "_law_pick" (some [] :: mk0 1) none (L1e Z18) := ⟨f__law_pick, _, ["_law_pool_here", "_law_some"], Zby F__law_pick T d__law_draw, MG Ha__law_pick, F__law_pick.kp, (F__law_pick.binds (ps := ["_law_pool_here", "_law_some"]) fun | _, _, _, _, _, _, [_, _], _ => rfl)⟩
  have d__law_plain_row : Dfn l.prog w K mg base 1 "_law_plain_row" (mk0 2) none (Lp Z1g) := ⟨f__law_plain_row, _, ["_law_opens", "_law_asks"], Z7f F__law_plain_row T, MG Ha__law_plain_row, F__law_plain_row.kp, (F__law_plain_row.binds (ps := ["_law_opens", "_law_asks"]) fun | _, _, _, _, _, _, [_, _], _ => rfl)⟩
  have d__law_plain_steps : Dfn l.prog w K mg base 1 "_law_plain_steps" (mk0 1) none (Lp Zu) := ⟨f__law_plain_steps, _, ["_law_pulls_here"], Z6l F__law_plain_steps T, MG Ha__law_plain_steps, F__law_plain_steps.kp, (F__law_plain_steps.binds (ps := ["_law_pulls_here"]) fun | _, _, _, _, _, _, [_], _ => rfl)⟩
  have d__law_numbers : Dfn l.prog w K mg base 1 "_law_numbers" (mk0 3) none (Lp Z2v) := ⟨f__law_numbers, _, ["_law_cell", "_law_salt", "_law_sizes"], Z8r F__law_numbers T, MG Ha__law_numbers, F__law_numbers.kp, (F__law_numbers.binds (ps := ["_law_cell", "_law_salt", "_law_sizes"]) fun | _, _, _, _, _, _, [_, _, _], _ => rfl)⟩
  have d__law_done : Dfn l.prog w K mg base 1 "_law_done" (mk0 3) none (Lp Zv) := ⟨f__law_done, _, ["_law_case_here", "_law_state", "_law_step"], Zc5 F__law_done T, MG Ha__law_done, F__law_done.kp, (F__law_done.binds (ps := ["_law_case_here", "_law_state", "_law_step"]) fun | _, _, _, _, _, _, [_, _, _], _ => rfl)⟩
  have d__law_freed : Dfn l.prog w K mg base 2 "_law_freed" (mk0 2) none (Lp Z13) := ⟨f__law_freed, _, ["_law_case_here", "_law_state"], Zaj F__law_freed T d__law_done, MG Ha__law_freed, F__law_freed.kp, (F__law_freed.binds (ps := ["_law_case_here", "_law_state"]) fun | _, _, _, _, _, _, [_, _], _ => rfl)⟩
  have d__law_later : Dfn l.prog w K mg base 3 "_law_later" (mk0 3) none (Lp Z1n) := ⟨f__law_later, _, ["_law_case_here", "_law_state", "_law_entry"], Zah F__law_later T d__law_done d__law_freed, MG Ha__law_later, F__law_later.kp, (F__law_later.binds (ps := ["_law_case_here", "_law_state", "_law_entry"]) fun | _, _, _, _, _, _, [_, _, _], _ => rfl)⟩
  have d__law_started : Dfn l.prog w K mg base 2 "_law_started" (mk0 4) none (Lp Zs) := ⟨f__law_started, _, ["_law_case_here", "_law_state", "_law_jobs", "_law_item_here"], Z8q F__law_started T d__law_done, MG Ha__law_started, F__law_started.kp, (F__law_started.binds (ps := ["_law_case_here", "_law_state", "_law_jobs", "_law_item_here"]) fun | _, _, _, _, _, _, [_, _, _, _], _ => rfl)⟩
  have d__law_gone : Dfn l.prog w K mg base 4 "_law_gone" (mk0 3) none (Lp Z34) := ⟨f__law_gone, _, ["_law_case_here", "_law_state", "_law_place"], Zc3 F__law_gone T d__law_flags d__law_later d__law_started, MG Ha__law_gone, F__law_gone.kp, (F__law_gone.binds (ps := ["_law_case_here", "_law_state", "_law_place"]) fun | _, _, _, _, _, _, [_, _, _], _ => rfl)⟩
  have d__law_ran : Dfn l.prog w K mg base 4 "_law_ran" (mk0 3) none (Lp Z3k) := ⟨f__law_ran, _, ["_law_case_here", "_law_state", "_law_name"], Zda F__law_ran T d__law_later d__law_started, MG Ha__law_ran, F__law_ran.kp, (F__law_ran.binds (ps := ["_law_case_here", "_law_state", "_law_name"]) fun | _, _, _, _, _, _, [_, _, _], _ => rfl)⟩
  have d__law_item : Dfn l.prog w K mg base 1 "_law_item" (mk0 3) none (Lp Z19) := ⟨f__law_item, _, ["_law_case_here", "_law_state", "_law_move"], Zc1 F__law_item T, MG Ha__law_item, F__law_item.kp, (F__law_item.binds (ps := ["_law_case_here", "_law_state", "_law_move"]) fun | _, _, _, _, _, _, [_, _, _], _ => rfl)⟩
  have d__law_here : Dfn l.prog w K mg base 1 "_law_here" (mk0 2) none (Lp Z2k) := ⟨f__law_here, _, ["_law_case_here", "_law_state"], Zc2 F__law_here T, MG Ha__law_here, F__law_here.kp, (F__law_here.binds (ps := ["_law_case_here", "_law_state"]) fun | _, _, _, _, _, _, [_, _], _ => rfl)⟩
  have d__law_pulls : Dfn l.prog w K mg base 1 "_law_pulls" (mk0 2) none (Lp Z1m) := ⟨f__law_pulls, _, ["_law_case_here", "_law_state"], Zaf F__law_pulls T, MG Ha__law_pulls, F__law_pulls.kp, (F__law_pulls.binds (ps := ["_law_case_here", "_law_state"]) fun | _, _, _, _, _, _, [_, _], _ => rfl)⟩
  have d__law_waits : Dfn l.prog w K mg base 2 "_law_waits" (mk0 3) none (Lp Z12) := ⟨f__law_waits, _, ["_law_case_here", "_law_state", "_law_item_here"], Zad F__law_waits T d__law_here d__law_pulls, MG Ha__law_waits, F__law_waits.kp, (F__law_waits.binds (ps := ["_law_case_here", "_law_state", "_law_item_here"]) fun | _, _, _, _, _, _, [_, _, _], _ => rfl)⟩
  have d__law_after : Dfn l.prog w K mg base 5 "_law_after" (mk0 3) none (Lp Zy) := ⟨f__law_after, _, ["_law_case_here", "_law_state", "_law_move"], Zan F__law_after T d__law_gone d__law_ran, MG Ha__law_after, F__law_after.kp, (F__law_after.binds (ps := ["_law_case_here", "_law_state", "_law_move"]) fun | _, _, _, _, _, _, [_, _, _], _ => rfl)⟩
  have d__law_fault : Dfn l.prog w K mg base 3 "_law_fault" (mk0 3) none (Lp Z14) := ⟨f__law_fault, _, ["_law_case_here", "_law_state", "_law_move"], Zam F__law_fault T d__law_done d__law_freed d__law_item, MG Ha__law_fault, F__law_fault.kp, (F__law_fault.binds (ps := ["_law_case_here", "_law_state", "_law_move"]) fun | _, _, _, _, _, _, [_, _, _], _ => rfl)⟩
  have d__law_first : Dfn l.prog w K mg base 1 "_law_first" (mk0 1) none (Lp Z2l) := ⟨f__law_first, _, ["_law_case_here"], Zal F__law_first T, MG Ha__law_first, F__law_first.kp, (F__law_first.binds (ps := ["_law_case_here"]) fun | _, _, _, _, _, _, [_], _ => rfl)⟩
  have d__law_kept : Dfn l.prog w K mg base 3 "_law_kept" (mk0 2) none (Lp Z2j) := ⟨f__law_kept, _, ["_law_case_here", "_law_state"], Zc0 F__law_kept T d__law_freed, MG Ha__law_kept, F__law_kept.kp, (F__law_kept.binds (ps := ["_law_case_here", "_law_state"]) fun | _, _, _, _, _, _, [_, _], _ => rfl)⟩
  have d__law_moves : Dfn l.prog w K mg base 3 "_law_moves" (mk0 3) none (Lp Z1x) := ⟨f__law_moves, _, ["_law_case_here", "_law_state", "_law_top"], Zag F__law_moves T d__law_waits, MG Ha__law_moves, F__law_moves.kp, (F__law_moves.binds (ps := ["_law_case_here", "_law_state", "_law_top"]) fun | _, _, _, _, _, _, [_, _, _], _ => rfl)⟩
  have d__law_stuck : Dfn l.prog w K mg base 2 "_law_stuck" (mk0 2) none (Lp Z1w) := ⟨f__law_stuck, _, ["_law_case_here", "_law_state"], Zae F__law_stuck T d__law_pulls, MG Ha__law_stuck, F__law_stuck.kp, (F__law_stuck.binds (ps := ["_law_case_here", "_law_state"]) fun | _, _, _, _, _, _, [_, _], _ => rfl)⟩
  have d_m_faults : ∀ C mf, Z70 C = some mf -> MethC l.prog w K mg base 8 C "faults" none mf := (Z5j (Z5h Ha_Plain cls_Plain ⟨Hm_Plain_faults, Hi_Plain_faults, F_Plain_faults.kp⟩ (PrP.up (Z2u (n := 1) (Z8s F_Plain_faults T d_m_is_stuck d_m_is_touched d_m_is_used d_m_openings) (F_Plain_faults.binds (ps := ["self"]) fun | _, _, _, _, _, _, [_], _ => rfl) Z9q) rfl)) Z44)
  have d_Plain_of : StatC l.prog w K mg base 4 "Plain" "of" none Z3l := ⟨c_Plain, .type "type", Hp_Plain_of, f_Plain_of, Hrs_Plain_of, MG Ha_Plain, ⟨Hrd_Plain_of, Hga_Plain_of⟩, Hat_Plain_of, Hrc_Plain_of, F_Plain_of.kp, (Z2u (n := 3) (Zdb F_Plain_of T d_Plain) (F_Plain_of.binds (ps := ["opens", "asks", "pulls"]) fun | _, _, _, _, _, _, [_, _, _], _ => rfl) Zfy)⟩
  have d__law_case : Dfn l.prog w K mg base 3 "_law_case" (mk0 1) none (Lp Z35) := ⟨f__law_case, _, ["_law_plan"], Zc6 F__law_case T d__law_laid, MG Ha__law_case, F__law_case.kp, (F__law_case.binds (ps := ["_law_plan"]) fun | _, _, _, _, _, _, [_], _ => rfl)⟩
  have d__law_kinds : Dfn l.prog w K mg base 3 "_law_kinds" (some [] :: mk0 0) none (L1e Z1y) := ⟨f__law_kinds, _, ["_law_pool_here"], Zai F__law_kinds T d__law_pick, MG Ha__law_kinds, F__law_kinds.kp, (F__law_kinds.binds (ps := ["_law_pool_here"]) fun | _, _, _, _, _, _, [_], _ => rfl)⟩
  have d__law_plain_plan : Dfn l.prog w K mg base 2 "_law_plain_plan" (mk0 3) none (Lp Z10) := ⟨f__law_plain_plan, _, ["_law_opens", "_law_asks", "_law_pulls_here"], Z6y F__law_plain_plan T d__law_plain_row d__law_plain_steps, MG Ha__law_plain_plan, F__law_plain_plan.kp, (F__law_plain_plan.binds (ps := ["_law_opens", "_law_asks", "_law_pulls_here"]) fun | _, _, _, _, _, _, [_, _, _], _ => rfl)⟩
  have d__law_pool : Dfn l.prog w K mg base 2 "_law_pool" (mk0 3) (some []) (Lp Z2i) := ⟨f__law_pool, _, ["_law_cell", "_law_salt", "_law_many"], Zbx F__law_pool T d__law_numbers, MG Ha__law_pool, F__law_pool.kp, (F__law_pool.binds (ps := ["_law_cell", "_law_salt", "_law_many"]) fun | _, _, _, _, _, _, [_, _, _], _ => rfl)⟩
  have d__law_pull_words : Dfn l.prog w K mg base 2 "_law_pull_words" (some [] :: mk0 0) none (L1e Zq) := ⟨f__law_pull_words, _, ["_law_pool_here"], Z6x F__law_pull_words T d__law_draw, MG Ha__law_pull_words, F__law_pull_words.kp, (F__law_pull_words.binds (ps := ["_law_pool_here"]) fun | _, _, _, _, _, _, [_], _ => rfl)⟩
  have d__law_words_met : Dfn l.prog w K mg base 6 "_law_words_met" [none, some []] none (Lm Z1f) := ⟨f__law_words_met, _, ["_law_case_here", "_law_pool_here"], Z7e F__law_words_met T d__law_after d__law_fault d__law_first d__law_kept d__law_moves d__law_pick d__law_stuck, MG Ha__law_words_met, F__law_words_met.kp, (F__law_words_met.binds (ps := ["_law_case_here", "_law_pool_here"]) fun | _, _, _, _, _, _, [_, _], _ => rfl)⟩
  exact Zp2 F_law T d_m_faults d_Plain_of d__law_case d__law_kinds d__law_plain_plan d__law_pool d__law_pull_words d__law_words_met
end K56
namespace K56
open PySem PySem.Spec PyProof.Rows L2 DL DM NdefX
theorem all_ok {w : World} {K : PySem.W.Frag} {h : Heap} {mg : Str -> Option Value} {fa : Addr} (X : K.In h) (G : h.Ns mainGlobals mg) (hfa : mg "law" = some (.ref fa)) (c : HH.Says fas fns tabs w K) : noL K = true ∧
    ∃ fd : FuncData, (∀ (s : Shared) (v : Value), BindsTo s fd ⟨[v], []⟩ [("_law_script", v)]) ∧ ∀ base : Heap, K.In base -> base.Ns mainGlobals mg -> FnG (PySem.Challenge.rw_pulledout_k56_whole_plain_books_in_plays).prog w K mg base (L2.CX (PySem.Challenge.rw_pulledout_k56_whole_plain_books_in_plays).prog w) 9 fa fd ["_law_script"] (spM K (mk0 1) none (Lp m_law)) := by
  refine ⟨HH.nl_ok (c.b 0 0 rfl rfl), ?_⟩
  exact Zqk (l := PySem.Challenge.rw_pulledout_k56_whole_plain_books_in_plays) (c_Plain := HH.gA K "Plain") (f_require_pull := HH.gA K "require_pull") (f_Plain_ahead := hC "Plain" "ahead" K) (f_Plain_behind := hC "Plain" "behind" K) (f_Plain_gaps := hC "Plain" "gaps" K) (f_Plain_openings := hC "Plain" "openings" K) (f_Plain_uses_behind_let := hC "Plain" "uses_behind_let" K) (f_Plain_is_stuck := hC "Plain" "is_stuck" K) (f_Plain_is_touched := hC "Plain" "is_touched" K) (f_Plain_is_used := hC "Plain" "is_used" K) (f_Plain_faults := hC "Plain" "faults" K) (f_wrong_pull := HH.gA K "wrong_pull") (f_Plain___init__ := hC "Plain" "__init__" K) (Hp_Plain_of := HH.sA K (HH.gA K "Plain") "of") (Hrs_Plain_of := HH.rR K (HH.sA K (HH.gA K "Plain") "of") "staticmethod") (f_Plain_of := HH.rA K (HH.sA K (HH.gA K "Plain") "of") "staticmethod") (f__law_flags := HH.gA K "_law_flags") (f__law_laid := HH.gA K "_law_laid") (f__law_case := HH.gA K "_law_case") (f__law_draw := HH.gA K "_law_draw") (f__law_pick := HH.gA K "_law_pick") (f__law_kinds := HH.gA K "_law_kinds") (f__law_plain_row := HH.gA K "_law_plain_row") (f__law_plain_steps := HH.gA K "_law_plain_steps") (f__law_plain_plan := HH.gA K "_law_plain_plan") (f__law_numbers := HH.gA K "_law_numbers") (f__law_pool := HH.gA K "_law_pool") (f__law_pull_words := HH.gA K "_law_pull_words") (f__law_done := HH.gA K "_law_done") (f__law_freed := HH.gA K "_law_freed") (f__law_later := HH.gA K "_law_later") (f__law_started := HH.gA K "_law_started") (f__law_gone := HH.gA K "_law_gone") (f__law_ran := HH.gA K "_law_ran") (f__law_after := HH.gA K "_law_after") (f__law_item := HH.gA K "_law_item") (f__law_fault := HH.gA K "_law_fault") (f__law_first := HH.gA K "_law_first") (f__law_kept := HH.gA K "_law_kept") (f__law_here := HH.gA K "_law_here") (f__law_pulls := HH.gA K "_law_pulls") (f__law_waits := HH.gA K "_law_waits") (f__law_moves := HH.gA K "_law_moves") (f__law_stuck := HH.gA K "_law_stuck") (f__law_words_met := HH.gA K "_law_words_met") (f_law := HH.gA K "law") (fd_require_pull := HH.fdA K (HH.gA K "require_pull")) (fd_Plain_ahead := HH.fdA K (hC "Plain" "ahead" K)) (fd_Plain_behind := HH.fdA K (hC "Plain" "behind" K)) (fd_Plain_gaps := HH.fdA K (hC "Plain" "gaps" K)) (fd_Plain_openings := HH.fdA K (hC "Plain" "openings" K)) (fd_Plain_uses_behind_let := HH.fdA K (hC "Plain" "uses_behind_let" K)) (fd_Plain_is_stuck := HH.fdA K (hC "Plain" "is_stuck" K)) (fd_Plain_is_touched := HH.fdA K (hC "Plain" "is_touched" K)) (fd_Plain_is_used := HH.fdA K (hC "Plain" "is_used" K)) (fd_Plain_faults := HH.fdA K (hC "Plain" "faults" K)) (fd_wrong_pull := HH.fdA K (HH.gA K "wrong_pull")) (fd_Plain___init__ := HH.fdA K (hC "Plain" "__init__" K)) (fd_Plain_of := HH.fdA K (HH.rA K (HH.sA K (HH.gA K "Plain") "of") "staticmethod")) (fd__law_flags := HH.fdA K (HH.gA K "_law_flags")) (fd__law_laid := HH.fdA K (HH.gA K "_law_laid")) (fd__law_case := HH.fdA K (HH.gA K "_law_case")) (fd__law_draw := HH.fdA K (HH.gA K "_law_draw")) (fd__law_pick := HH.fdA K (HH.gA K "_law_pick")) (fd__law_kinds := HH.fdA K (HH.gA K "_law_kinds")) (fd__law_plain_row := HH.fdA K (HH.gA K "_law_plain_row")) (fd__law_plain_steps := HH.fdA K (HH.gA K "_law_plain_steps")) (fd__law_plain_plan := HH.fdA K (HH.gA K "_law_plain_plan")) (fd__law_numbers := HH.fdA K (HH.gA K "_law_numbers")) (fd__law_pool := HH.fdA K (HH.gA K "_law_pool")) (fd__law_pull_words := HH.fdA K (HH.gA K "_law_pull_words")) (fd__law_done := HH.fdA K (HH.gA K "_law_done")) (fd__law_freed := HH.fdA K (HH.gA K "_law_freed")) (fd__law_later := HH.fdA K (HH.gA K "_law_later")) (fd__law_started := HH.fdA K (HH.gA K "_law_started")) (fd__law_gone := HH.fdA K (HH.gA K "_law_gone")) (fd__law_ran := HH.fdA K (HH.gA K "_law_ran")) (fd__law_after := HH.fdA K (HH.gA K "_law_after")) (fd__law_item := HH.fdA K (HH.gA K "_law_item")) (fd__law_fault := HH.fdA K (HH.gA K "_law_fault")) (fd__law_first := HH.fdA K (HH.gA K "_law_first")) (fd__law_kept := HH.fdA K (HH.gA K "_law_kept")) (fd__law_here := HH.fdA K (HH.gA K "_law_here")) (fd__law_pulls := HH.fdA K (HH.gA K "_law_pulls")) (fd__law_waits := HH.fdA K (HH.gA K "_law_waits")) (fd__law_moves := HH.fdA K (HH.gA K "_law_moves")) (fd__law_stuck := HH.fdA K (HH.gA K "_law_stuck")) (fd__law_words_met := HH.fdA K (HH.gA K "_law_words_met")) (fd_law := HH.fdA K (HH.gA K "law")) X G hfa
   (c.d 0 1 rfl rfl rfl)
   (c.b 0 2 rfl rfl)
   (c.b 0 3 rfl rfl)
   (c.b 0 4 rfl rfl)
   (c.d 0 5 rfl rfl rfl)
   (c.d 0 6 rfl rfl rfl)
   (c.d 0 7 rfl rfl rfl)
   (c.d 0 8 rfl rfl rfl)
   (c.d 0 9 rfl rfl rfl)
   (HH.fun_of (c.f 0 rfl) (c.b 0 10 rfl rfl))
   (c.d 0 11 rfl rfl rfl)
   (c.b 0 12 rfl rfl)
   (HH.fun_of (c.f 1 rfl) (c.b 0 13 rfl rfl))
   (c.d 0 14 rfl rfl rfl)
   (c.b 0 15 rfl rfl)
   (HH.fun_of (c.f 2 rfl) (c.b 0 16 rfl rfl))
   (c.d 0 17 rfl rfl rfl)
   (c.b 0 18 rfl rfl)
   (HH.fun_of (c.f 3 rfl) (c.b 0 19 rfl rfl))
   (c.d 0 20 rfl rfl rfl)
   (c.b 0 21 rfl rfl)
   (HH.fun_of (c.f 4 rfl) (c.b 0 22 rfl rfl))
   (c.d 0 23 rfl rfl rfl)
   (c.b 0 24 rfl rfl)
   (HH.fun_of (c.f 5 rfl) (c.b 0 25 rfl rfl))
   (c.d 0 26 rfl rfl rfl)
   (c.b 0 27 rfl rfl)
   (HH.fun_of (c.f 6 rfl) (c.b 0 28 rfl rfl))
   (c.d 0 29 rfl rfl rfl)
   (c.b 1 0 rfl rfl)
   (HH.fun_of (c.f 7 rfl) (c.b 1 1 rfl rfl))
   (c.d 1 2 rfl rfl rfl)
   (c.b 1 3 rfl rfl)
   (HH.fun_of (c.f 8 rfl) (c.b 1 4 rfl rfl))
   (c.d 1 5 rfl rfl rfl)
   (c.b 1 6 rfl rfl)
   (HH.fun_of (c.f 9 rfl) (c.b 1 7 rfl rfl))
   (c.d 1 8 rfl rfl rfl)
   (HH.fun_of (c.f 10 rfl) (c.b 1 9 rfl rfl))
   (c.d 1 10 rfl rfl rfl)
   (c.b 1 11 rfl rfl)
   (c.b 1 12 rfl rfl)
   (c.b 1 13 rfl rfl)
   (HH.fun_of (c.f 11 rfl) (c.b 1 14 rfl rfl))
   (c.b 1 15 rfl rfl)
   (c.d 1 16 rfl rfl rfl)
   (HH.sB_ok (c.b 1 17 rfl rfl))
   (HH.rB_ok (c.b 1 18 rfl rfl))
   (HH.fun_of (c.f 12 rfl) (c.b 1 19 rfl rfl))
   (c.d 1 20 rfl rfl rfl)
   (HH.fun_of (c.f 13 rfl) (c.b 1 21 rfl rfl))
   (c.d 1 22 rfl rfl rfl)
   (HH.fun_of (c.f 14 rfl) (c.b 1 23 rfl rfl))
   (c.d 1 24 rfl rfl rfl)
   (HH.fun_of (c.f 15 rfl) (c.b 1 25 rfl rfl))
   (c.d 1 26 rfl rfl rfl)
   (HH.fun_of (c.f 16 rfl) (c.b 1 27 rfl rfl))
   (c.d 1 28 rfl rfl rfl)
   (HH.fun_of (c.f 17 rfl) (c.b 1 29 rfl rfl))
   (c.d 2 0 rfl rfl rfl)
   (HH.fun_of (c.f 18 rfl) (c.b 2 1 rfl rfl))
   (c.d 2 2 rfl rfl rfl)
   (HH.fun_of (c.f 19 rfl) (c.b 2 3 rfl rfl))
   (c.d 2 4 rfl rfl rfl)
   (HH.fun_of (c.f 20 rfl) (c.b 2 5 rfl rfl))
   (c.d 2 6 rfl rfl rfl)
   (HH.fun_of (c.f 21 rfl) (c.b 2 7 rfl rfl))
   (c.d 2 8 rfl rfl rfl)
   (HH.fun_of (c.f 22 rfl) (c.b 2 9 rfl rfl))
   (c.d 2 10 rfl rfl rfl)
   (HH.fun_of (c.f 23 rfl) (c.b 2 11 rfl rfl))
   (c.d 2 12 rfl rfl rfl)
   (HH.fun_of (c.f 24 rfl) (c.b 2 13 rfl rfl))
   (c.d 2 14 rfl rfl rfl)
   (HH.fun_of (c.f 25 rfl) (c.b 2 15 rfl rfl))
   (c.d 2 16 rfl rfl rfl)
   (HH.fun_of (c.f 26 rfl) (c.b 2 17 rfl rfl))
   (c.d 2 18 rfl rfl rfl)
   (HH.fun_of (c.f 27 rfl) (c.b 2 19 rfl rfl))
   (c.d 2 20 rfl rfl rfl)
   (HH.fun_of (c.f 28 rfl) (c.b 2 21 rfl rfl))
   (c.d 2 22 rfl rfl rfl)
   (HH.fun_of (c.f 29 rfl) (c.b 2 23 rfl rfl))
   (c.d 2 24 rfl rfl rfl)
   (HH.fun_of (c.f 30 rfl) (c.b 2 25 rfl rfl))
   (c.d 2 26 rfl rfl rfl)
   (HH.fun_of (c.f 31 rfl) (c.b 2 27 rfl rfl))
   (c.d 2 28 rfl rfl rfl)
   (HH.fun_of (c.f 32 rfl) (c.b 2 29 rfl rfl))
   (c.d 3 0 rfl rfl rfl)
   (HH.fun_of (c.f 33 rfl) (c.b 3 1 rfl rfl))
   (c.d 3 2 rfl rfl rfl)
   (HH.fun_of (c.f 34 rfl) (c.b 3 3 rfl rfl))
   (c.d 3 4 rfl rfl rfl)
   (HH.fun_of (c.f 35 rfl) (c.b 3 5 rfl rfl))
   (c.d 3 6 rfl rfl rfl)
   (HH.fun_of (c.f 36 rfl) (c.b 3 7 rfl rfl))
   (c.d 3 8 rfl rfl rfl)
   (HH.fun_of (c.f 37 rfl) (c.b 3 9 rfl rfl))
   (c.d 3 10 rfl rfl rfl)
   (HH.fun_of (c.f 38 rfl) (c.b 3 11 rfl rfl))
   (c.d 3 12 rfl rfl rfl)
   (HH.fun_of (c.f 39 rfl) (c.b 3 13 rfl rfl))
   (c.d 3 14 rfl rfl rfl)
   (HH.fun_of (c.f 40 rfl) (c.b 3 15 rfl rfl))
   (c.d 3 16 rfl rfl rfl)
   (HH.fun_of (c.f 41 rfl) (c.b 3 17 rfl rfl))
   (c.d 3 18 rfl rfl rfl)
   (HH.fun_of (c.f 42 rfl) (c.b 3 19 rfl rfl))
   (c.d 3 20 rfl rfl rfl)
   (c.d 3 21 rfl rfl rfl)
   (c.d 3 22 rfl rfl rfl)
   (c.d 3 23 rfl rfl rfl)
   (c.d 3 24 rfl rfl rfl)
   (c.d 3 25 rfl rfl rfl)
   (c.d 3 26 rfl rfl rfl)
   (c.d 3 27 rfl rfl rfl)
   (c.d 3 28 rfl rfl rfl)
   (c.d 3 29 rfl rfl rfl)
   (c.d 4 0 rfl rfl rfl)
   (c.d 4 1 rfl rfl rfl)
   (c.d 4 2 rfl rfl rfl)
   (c.d 4 3 rfl rfl rfl)
   (HH.glob_of X G (c.d 4 4 rfl rfl rfl) (c.b 4 5 rfl rfl))
   (HH.glob_of X G (c.d 4 6 rfl rfl rfl) (c.b 4 7 rfl rfl))
   (HH.glob_of X G (c.d 4 8 rfl rfl rfl) (c.b 4 9 rfl rfl))
   (HH.glob_of X G (c.d 4 10 rfl rfl rfl) (c.b 4 11 rfl rfl))
   (HH.glob_of X G (c.d 4 12 rfl rfl rfl) (c.b 4 13 rfl rfl))
   (HH.glob_of X G (c.d 4 14 rfl rfl rfl) (c.b 4 15 rfl rfl))
   (HH.glob_of X G (c.d 4 16 rfl rfl rfl) (c.b 4 17 rfl rfl))
   (HH.glob_of X G (c.d 4 18 rfl rfl rfl) (c.b 4 19 rfl rfl))
   (HH.glob_of X G (c.d 4 20 rfl rfl rfl) (c.b 4 21 rfl rfl))
   (HH.glob_of X G (c.d 4 22 rfl rfl rfl) (c.b 4 23 rfl rfl))
   (HH.glob_of X G (c.d 4 24 rfl rfl rfl) (c.b 4 25 rfl rfl))
   (HH.glob_of X G (c.d 4 26 rfl rfl rfl) (c.b 4 27 rfl rfl))
   (HH.glob_of X G (c.d 4 28 rfl rfl rfl) (c.b 4 29 rfl rfl))
   (HH.kdc_of X G (c.d 5 0 rfl rfl rfl) (c.t 0 rfl))
   (HH.kdc_of X G (c.d 5 1 rfl rfl rfl) (c.t 1 rfl))
   (HH.err_of1 (P := PySem.Challenge.rw_pulledout_k56_whole_plain_books_in_plays.prog) (st := (clsS 4 0)) DX.base_VE X G (c.d 5 3 rfl rfl rfl) (HH.erB_ok (c.b 5 4 rfl rfl)) (c.d 5 5 rfl rfl rfl) (c.d 5 6 rfl rfl rfl) (c.d 5 7 rfl rfl rfl) (HH.klk_of (file := "/claim/cut.py") (c.f 43 rfl) (c.b 5 2 rfl rfl)) rfl rfl rfl rfl rfl rfl rfl rfl rfl (by decide +kernel) (fun doc pm ct an us hl => (match us, hl with | [_, _], _ => rfl)) (fun _ => ⟨_, rfl⟩))
   (HH.err_of1 (P := PySem.Challenge.rw_pulledout_k56_whole_plain_books_in_plays.prog) (st := (clsS 3 0)) DX.base_VE X G (c.d 5 9 rfl rfl rfl) (HH.erB_ok (c.b 5 10 rfl rfl)) (c.d 5 11 rfl rfl rfl) (c.d 5 6 rfl rfl rfl) (c.d 5 7 rfl rfl rfl) (HH.klk_of (file := "/claim/cut.py") (c.f 44 rfl) (c.b 5 8 rfl rfl)) rfl rfl rfl rfl rfl rfl rfl rfl rfl (by decide +kernel) (fun doc pm ct an us hl => (match us, hl with | [_, _], _ => rfl)) (fun _ => ⟨_, rfl⟩))
   (HH.err_of1 (P := PySem.Challenge.rw_pulledout_k56_whole_plain_books_in_plays.prog) (st := (clsS 5 0)) DX.base_LE X G (c.d 5 13 rfl rfl rfl) (HH.erB_ok (c.b 5 14 rfl rfl)) (c.d 5 15 rfl rfl rfl) (c.d 5 6 rfl rfl rfl) (c.d 5 7 rfl rfl rfl) (HH.klk_of (file := "/claim/cut.py") (c.f 45 rfl) (c.b 5 12 rfl rfl)) rfl rfl rfl rfl rfl rfl rfl rfl rfl (by decide +kernel) (fun doc pm ct an us hl => (match us, hl with | [_, _], _ => rfl)) (fun _ => ⟨_, rfl⟩))
end K56
open PySem PySem.W PySem.Calls PyProof.Rows
set_option maxHeartbeats 0 in
theorem PySem.Challenge.cw_pulledout_k56_whole_plain_books_in_plays_holds : PySem.Challenge.rw_pulledout_k56_whole_plain_books_in_plays.Holds := by
  w_on; o_law
  refine HandSHeadRun.head_any (r := OpenLaw.row PySem.Challenge.rw_pulledout_k56_whole_plain_books_in_plays) (q := K56.qv) (H := HH.hookK K56.fas K56.fns K56.tabs) (ob := HH.obK K56.fas K56.fns K56.tabs) (M := 20000) (loose := K56.names) (d := HandSHeadRun.topDef (OpenLaw.row PySem.Challenge.rw_pulledout_k56_whole_plain_books_in_plays).prog 63) (kwd := []) (HH.obK_eq _ _ _) (by kernel_rfl) (fun s => by kernel_rfl) K56.run (by kernel_rfl) (by kernel_rfl) (by kernel_rfl) (by rfl) (by first | assumption | decide +kernel) (by decide +kernel) ⟨rfl, rfl, rfl, rfl, rfl, by decide +kernel⟩ ?hw ?hc
  case hw => w_witness2
  case hc =>
    refine HH.walkH (l := PySem.Challenge.rw_pulledout_k56_whole_plain_books_in_plays) (n := 63) (k := 9) (x := "_law_script") (mf := K56.m_law) rfl (by decide) (by kernel_rfl) ⟨rfl, by decide, by decide⟩ (fun ns hl => K56.law_holds ns hl) ?F
    intro w mg fa h Y G hmg0
    obtain ⟨K, KX, c⟩ := Y
    have hmg : mg ("law" : PySem.Str) = some (.ref fa) := by
      have e : (HandSHeadRun.topDef (OpenLaw.row PySem.Challenge.rw_pulledout_k56_whole_plain_books_in_plays).prog 63).name = ("law" : PySem.Str) := by kernel_rfl
      rw [← e]
      exact hmg0
    obtain ⟨a, b⟩ := K56.all_ok KX G hmg c
    exact ⟨K, KX, a, b⟩
