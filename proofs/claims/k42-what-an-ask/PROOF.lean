import PyProof.Rows.All
import Wide.All
import OpenK.AllK
import Wide.FinOn
import KE.KStateDown
import HandS.ForMost
import HandS.Exc
import HandS.TryOnly
import HandS.ExcOwn
import HandS.WordsExc
import HandS.Codes
import HandS.Defaults
import HandS.MakeKwOnly
import HandS.Deep
import HandS.Flow
import HandS.Style
import HandS.IsInst
import HandS.FStr
import HandS.TupAny
import HandS.Wide
import HandS.WideBits
import HandS.Conv
import HandS.Head0
import HandS.Head1
import HandS.Head2
import HandS.HeadEnd
import HandS.HeadHook1
import HandS.HeadHook2
import HandS.Evl
import PyProof.Rows.StrRev
import HandS.SortKw
import HandS.Nested
import PyProof.TupleOfSeq
import HandS.EndTab
import HandS.HeadHook4
import HandS.Strs
import HandS.NoneIn
import HandS.SortInts
import HandS.HeadWalk
import HandS.Head4
import PySem.Challenge.RW_turnedback_k42_what_an_ask_comes_to
set_option Elab.async false
set_option linter.all false
set_option maxRecDepth 100000
set_option maxHeartbeats 4000000
/-! A layer of my own over the hand layer: what a call may forget, the pot of draws as a hidden thing. -/
namespace TB
open PySem PySem.Spec PyProof.Rows L2

/-! ### leaving things behind at a call's end -/
/-- no dict with tuple keys in u -/
def noT : HO → Prop
  | .dT _ => False
  | .frz _ u => noT u
  | _ => True
def NoT (H : Hp) : Prop := ∀ a o, H a = some o → noT o
theorem NoT.upd {H : Hp} {p : Addr} {o : HO} (h : NoT H) (ho : noT o) : NoT (upd H p o) := fun a u e => by
  by_cases q : a = p
  · subst q
    rw [upd_same] at e
    cases e
    exact ho
  · rw [upd_ne q] at e
    exact h a u e
/-- what u at a leans on stands in H -/
def leans (H : Hp) (a : Addr) : HO → Prop
  | .ins _ dx _ => H dx = some (.own a)
  | .frz _ u => leans H a u
  | _ => True
theorem leans_of {P : Program} {w : World} {H : Hp} {h : Heap} {a : Addr} : ∀ (o : HO), ObjOk P w H h a o → leans H a o
  | .lst _, _ => trivial
  | .tup _, _ => trivial
  | .dK _, _ => trivial
  | .dT _, _ => trivial
  | .set _ _, _ => trivial
  | .ins _ _ _, x => x.1
  | .own _, _ => trivial
  | .xd _, _ => trivial
  | .rng _ _, _ => trivial
  | .frz _ u, x => leans_of u x.2
  | .tbl _, _ => trivial
  | .met _ _, _ => trivial
  | .ext _, _ => trivial
theorem ok_leans {P : Program} {w : World} {H H' : Hp} {h : Heap} {a : Addr} : ∀ (o : HO), ObjOk P w H h a o → noT o → leans H' a o → ObjOk P w H' h a o
  | .lst _, x, _, _ => x
  | .tup _, x, _, _ => x
  | .dK _, x, _, _ => x
  | .dT _, _, n, _ => n.elim
  | .set _ _, x, _, _ => x
  | .ins _ _ _, x, _, l => ⟨l, x.2⟩
  | .own _, x, _, _ => x
  | .xd _, x, _, _ => x
  | .rng _ _, x, _, _ => x
  | .frz _ u, x, n, l => ⟨x.1, ok_leans u x.2 n l⟩
  | .tbl _, x, _, _ => x
  | .met _ _, x, _, _ => x
  | .ext _, x, _, _ => x
/-- H'' is what is still told of H' behind a call that began with H: no more than H' tells, all that H told of, and what those lean on -/
structure Fg (H H' H'' : Hp) : Prop where
  sub : ∀ b o, H'' b = some o → H' b = some o
  old : ∀ b o o', H b = some o → H' b = some o' → H'' b = some o'
  lean : ∀ a o, H'' a = some o → H a = none → leans H'' a o
  same : ∀ a o, H a = some o → leans H a o → ∀ o', H'' a = some o' → leans H'' a o'
  nt : NoT H''
theorem hok_fg {P : Program} {w : World} {H H' H'' : Hp} {h h' : Heap} (k0 : HOk P w H h) (k : HOk P w H' h') (f : Fg H H' H'') : HOk P w H'' h' := by
  intro a o e
  refine ok_leans o (k a o (f.sub a o e)) (f.nt a o e) ?_
  cases q : H a with
  | none => exact f.lean a o e q
  | some u => exact f.same a u q (leans_of u (k0 a u q)) o e
theorem un_fg {fs ex : List Addr} {H H' H'' : Hp} {h h' : Heap} (u : Un fs ex H H' h h') (f : Fg H H' H'') : Un fs ex H H'' h h' where
  keep := u.keep
  slot := u.slot
  free := fun b o e n hx => by
    have z := u.free b o e n hx
    cases q : H'' b with
    | none => rfl
    | some v =>
      rw [f.sub b v q] at z
      cases z
  there := u.there
  tups := fun b xs e => f.old b _ _ e (u.tups b xs e)
  frzs := fun b o v e => f.old b _ _ e (u.frzs b o v e)
  tbls := fun b ps e => by
    obtain ⟨m, e2⟩ := u.tbls b ps e
    exact ⟨m, f.old b _ _ e e2⟩
/-- nothing new is told -/
theorem Fg.back {H H' : Hp} (s : Same H H') (n : NoT H) : Fg H H' H := by
  refine ⟨s, fun b o o' e e' => ?_, fun a o e z => ?_, fun a o e l o' e' => ?_, n⟩
  · rw [s b o e] at e'
    cases e'
    exact e
  · rw [e] at z
    cases z
  · rw [e] at e'
    cases e'
    exact l
/-- one new thing that leans on nothing -/
theorem Fg.one {H H' : Hp} {p : Addr} {o : HO} (s : Same H H') (n : NoT H) (hp : H p = none) (e : H' p = some o) (no : noT o) (lo : ∀ H, leans H p o) : Fg H H' (upd H p o) := by
  have lk : ∀ (a : Addr) (u : HO), leans H a u → leans (upd H p o) a u := by
    intro a u
    induction u with
    | ins C dx fs =>
      intro l
      have l2 : H dx = some (.own a) := l
      show upd H p o dx = some (.own a)
      rw [upd_ne (ne_of_none l2 hp)]
      exact l2
    | frz ob v ih => exact fun l => ih l
    | _ => exact fun _ => trivial
  refine ⟨fun b u q => ?_, fun b u u' q q' => ?_, fun a u q z => ?_, fun a u q l u' q' => ?_, n.upd no⟩
  · by_cases hb : b = p
    · subst hb
      rw [upd_same] at q
      cases q
      exact e
    · rw [upd_ne hb] at q
      exact s b u q
  · have hb : b ≠ p := ne_of_none q hp
    rw [upd_ne hb, ← q', s b u q]
    exact q
  · by_cases hb : a = p
    · subst hb
      rw [upd_same] at q
      cases q
      exact lo _
    · rw [upd_ne hb, z] at q
      cases q
  · have hb : a ≠ p := ne_of_none q hp
    rw [upd_ne hb, q] at q'
    cases q'
    exact lk a u l
section
variable {P : Program} {w : World} {K : PySem.W.Frag} {mg : Str → Option Value} {base : Heap} {CX : CXT} {k : Nat} {f : Addr} {fd : FuncData} {ps : List Str} {sp sp' : Sp}
/-- a promise whose end forgets -/
theorem fn_fg (F : FnOk P w K mg base CX k f fd ps sp) (h : ∀ vs H Q E, sp' vs H Q E → sp vs H (fun v H' => ∃ H'', Fg H H' H'' ∧ Q v H'') E) : FnOk P w K mg base CX k f fd ps sp' := by
  refine ⟨fun vs H Q E q => F.len _ _ _ _ (h vs H Q E q), fun A outer s H args us vs Q E hr he hb hv hs => ?_⟩
  refine codeAny_mono (F.run A outer s H args us vs _ E hr he hb hv (h vs H Q E hs)) fun r s' c => ?_
  match r, c with
  | .ok (.ret u), ⟨v, H', os, bare, un, hok, rv, H'', fg, q⟩ => exact ⟨v, H'', os, bare, un_fg un fg, hok_fg he.hok hok fg, rv, q⟩
  | .error e, c => exact c
end

/-! ### the pot: two numbers that nobody tells -/
def potP (p : Addr) (h : Heap) : Prop := ∃ (a b : Int) (t u : Tok) (n : Nat), h.get? p = some { cls := .type "list", data := .seq #[.int a t, .int b u] n } ∧ 0 ≤ a ∧ 0 ≤ b ∧ b < 2147483647
/-- a pot stands at p -/
def PotO (p : Addr) : HO := .ext (potP p)
theorem pot_stay (p : Addr) : ∀ h1 h2 : Heap, potP p h1 → (∀ o, h1.get? p = some o → h2.get? p = some o) → potP p h2 := by
  rintro h1 h2 ⟨a, b, t, u, n, e, r⟩ k
  exact ⟨a, b, t, u, n, k _ e, r⟩
theorem pot_ok {P : Program} {w : World} {H H' : Hp} {h : Heap} {p : Addr} {a b : Int} (x : ObjOk P w H h p (.lst [.int a, .int b])) (ha : 0 ≤ a) (hb : 0 ≤ b) (hb2 : b < 2147483647) : ObjOk P w H' h p (PotO p) := by
  obtain ⟨_, its, n, r, e⟩ := x
  cases r with
  | cons r1 r2 => cases r2 with
    | cons r2 r3 => cases r3 with
      | nil =>
        obtain ⟨t, rfl⟩ := r1
        obtain ⟨u, rfl⟩ := r2
        exact ⟨⟨a, b, t, u, n, e, ha, hb, hb2⟩, ⟨_, e⟩, pot_stay p⟩
theorem pot_open {P : Program} {w : World} {H : Hp} {h : Heap} {p : Addr} (x : ObjOk P w H h p (PotO p)) : ∃ a b : Int, 0 ≤ a ∧ 0 ≤ b ∧ b < 2147483647 ∧ ∀ H' : Hp, ObjOk P w H' h p (.lst [.int a, .int b]) := by
  obtain ⟨⟨a, b, t, u, n, e, ha, hb, hb2⟩, _, _⟩ := x
  exact ⟨a, b, ha, hb, hb2, fun _ => ⟨(by show 2 ≤ sizeLine; decide), _, n, .cons ⟨t, rfl⟩ (.cons ⟨u, rfl⟩ .nil), e⟩⟩
theorem pot_hok {P : Program} {w : World} {H : Hp} {h : Heap} {p : Addr} {o o' : HO} (k : HOk P w H h) (e : H p = some o) (m : Mut (some o)) (x : ObjOk P w (upd H p o') h p o') : HOk P w (upd H p o') h := by
  intro b u q
  by_cases hb : b = p
  · subst hb
    rw [upd_same] at q
    cases q
    exact x
  · rw [upd_ne hb] at q
    refine (k b u q).stay (fun _ _ _ z => z) (fun c z => ?_) (fun c xs z => ?_)
    · rw [upd_ne (ne_of z e (fun y => by rw [← y] at m; exact m))]
      exact z
    · rw [upd_ne (ne_of z e (fun y => by rw [← y] at m; exact m))]
      exact z
section
variable {P : Program} {w : World} {K : PySem.W.Frag} {mg : Str → Option Value} {base : Heap} {k : Nat} {f : Addr} {fd : FuncData} {ps : List Str} {sp sp' : Sp}
/-- a def that turns a pot, told of a pot that nobody looks into -/
theorem fn_pot (F : FnOk P w K mg base CX0 k f fd ps sp)
    (h : ∀ vs H Q E, sp' vs H Q E → ∃ p, H p = some (PotO p) ∧ ∀ a b : Int, 0 ≤ a → 0 ≤ b → b < 2147483647 →
      sp vs (upd H p (.lst [.int a, .int b])) (fun v H' => ∃ a' b' : Int, 0 ≤ a' ∧ 0 ≤ b' ∧ b' < 2147483647 ∧ H' p = some (.lst [.int a', .int b']) ∧ ∃ H'', Fg H (upd H' p (PotO p)) H'' ∧ Q v H'') E) : FnOk P w K mg base CX0 k f fd ps sp' := by
  refine ⟨fun vs H Q E q => ?_, fun A outer s H args us vs Q E hr he hb hv hs => ?_⟩
  · obtain ⟨p, _, z⟩ := h vs H Q E q
    exact F.len _ _ _ _ (z 0 0 (by decide) (by decide) (by decide))
  · obtain ⟨p, hp, z⟩ := h vs H Q E hs
    obtain ⟨a, b, ha, hb0, hb1, ok⟩ := pot_open (he.hok p _ hp)
    have ok1 : HOk P w (upd H p (.lst [.int a, .int b])) s.heap := pot_hok he.hok hp trivial (ok _)
    have ne : ∀ c, H c = none → c ≠ p := fun c q z => by
      rw [z, hp] at q
      cases q
    have e1 : Env0 P w K mg base A outer s (upd H p (.lst [.int a, .int b])) := ⟨he.frames, he.mod, fun c o q => ⟨(he.bs c o q).1, by rw [upd_ne (ne c (he.bs c o q).2)]; exact (he.bs c o q).2⟩, he.bsz, he.funs, fun c q => by rw [upd_ne (ne c (he.frf c q))]; exact he.frf c q, ok1, he.bare⟩
    refine codeAny_mono (F.run A outer s _ args us vs _ E hr e1 hb hv (z a b ha hb0 hb1)) fun r s' c => ?_
    match r, c with
    | .ok (.ret u), ⟨v, H', os, bare, un, hok, rv, a', b', ha', hb', hb2', ep, H'', fg, q⟩ =>
      have hok2 : HOk P w (upd H' p (PotO p)) s'.heap := pot_hok hok ep trivial (pot_ok (hok p _ ep) ha' hb' hb2')
      have np : ∀ c o, H c = some o → o ≠ PotO p → c ≠ p := fun c o q n z => by
        rw [z, hp] at q
        cases q
        exact n rfl
      have un2 : Un (frs outer) [] H (upd H' p (PotO p)) s.heap s'.heap := by
        refine ⟨fun c o q n h1 h2 => un.keep c o q (by rw [upd_ne (ne c n)]; exact n) h1 h2, fun c o q n h1 h2 => un.slot c o q (by rw [upd_ne (ne c n)]; exact n) h1 h2, fun c o q n h2 => ?_, un.there, fun c xs q => ?_, fun c o v q => ?_, fun c qs q => ?_⟩
        · rw [upd_ne (ne c n)]
          exact un.free c o q (by rw [upd_ne (ne c n)]; exact n) h2
        · have nc := np c _ q (by intro z; cases z)
          rw [upd_ne nc]
          exact un.tups c xs (by rw [upd_ne nc]; exact q)
        · have nc := np c _ q (by intro z; cases z)
          rw [upd_ne nc]
          exact un.frzs c o v (by rw [upd_ne nc]; exact q)
        · have nc := np c _ q (by intro z; cases z)
          rw [upd_ne nc]
          exact un.tbls c qs (by rw [upd_ne nc]; exact q)
      exact ⟨v, H'', os, bare, un_fg un2 fg, hok_fg he.hok hok2 fg, rv, q⟩
/-- a def that makes a pot -/
theorem fn_mkpot (F : FnOk P w K mg base CX0 k f fd ps sp)
    (h : ∀ vs H Q E, sp' vs H Q E → sp vs H (fun v H' => ∃ (p : Addr) (a b : Int), 0 ≤ a ∧ 0 ≤ b ∧ b < 2147483647 ∧ H p = none ∧ H' p = some (.lst [.int a, .int b]) ∧ ∃ H'', Fg H (upd H' p (PotO p)) H'' ∧ Q v H'') E) : FnOk P w K mg base CX0 k f fd ps sp' := by
  refine ⟨fun vs H Q E q => F.len _ _ _ _ (h vs H Q E q), fun A outer s H args us vs Q E hr he hb hv hs => ?_⟩
  refine codeAny_mono (F.run A outer s _ args us vs _ E hr he hb hv (h vs H Q E hs)) fun r s' c => ?_
  match r, c with
  | .ok (.ret u), ⟨v, H', os, bare, un, hok, rv, p, a', b', ha', hb', hb2', np, ep, H'', fg, q⟩ =>
    have hok2 : HOk P w (upd H' p (PotO p)) s'.heap := pot_hok hok ep trivial (pot_ok (hok p _ ep) ha' hb' hb2')
    have un2 : Un (frs outer) [] H (upd H' p (PotO p)) s.heap s'.heap := by
      refine ⟨un.keep, un.slot, fun c o q n h2 => ?_, un.there, fun c xs q => ?_, fun c o v q => ?_, fun c qs q => ?_⟩
      · have z := un.free c o q n h2
        have nc : c ≠ p := fun y => by
          rw [y, ep] at z
          cases z
        rw [upd_ne nc]
        exact z
      · rw [upd_ne (ne_of_none q np)]
        exact un.tups c xs q
      · rw [upd_ne (ne_of_none q np)]
        exact un.frzs c o v q
      · rw [upd_ne (ne_of_none q np)]
        exact un.tbls c qs q
    exact ⟨v, H'', os, bare, un_fg un2 fg, hok_fg he.hok hok2 fg, rv, q⟩
end
end TB
/-! Promises that hold where nothing on the stack is being shown (repr needs that). -/
namespace TB
open PySem PySem.Spec PyProof.Rows L2
/-- as FnOk, of calls where no guard lies below -/
structure FnG (P : Program) (w : World) (K : PySem.W.Frag) (mg : Str → Option Value) (base : Heap) (CX : CXT) (k : Nat) (f : Addr) (fd : FuncData) (ps : List Str) (sp : Sp) : Prop where
  lenG : ∀ vs H Q E, sp vs H Q E → vs.length = ps.length
  runG : ∀ (A : Around) (outer : List Env) (s : Shared) (H : Hp) (args : Args) (us : List Value) (vs : List V) (Q : VK) (E : XK), A.guards = some [] → Room k A → Env0 P w K mg base A outer s H → BindsTo s fd args (ps.zip us) → Vals vs us →
    sp vs H Q E → codeAny (model P w) A (.call (.ref f) args) (CR CX outer P w H s Q E) s
section
variable {P : Program} {w : World} {K : PySem.W.Frag} {mg : Str → Option Value} {base : Heap} {CX : CXT} {k : Nat} {f : Addr} {fd : FuncData} {ps : List Str} {sp sp' : Sp}
theorem FnG.of (F : FnOk P w K mg base CX k f fd ps sp) : FnG P w K mg base CX k f fd ps sp :=
  ⟨F.len, fun A outer s H args us vs Q E _ hr he hb hv hs => F.run A outer s H args us vs Q E hr he hb hv hs⟩
theorem fg_fg (F : FnG P w K mg base CX k f fd ps sp) (h : ∀ vs H Q E, sp' vs H Q E → sp vs H (fun v H' => ∃ H'', Fg H H' H'' ∧ Q v H'') E) : FnG P w K mg base CX k f fd ps sp' := by
  refine ⟨fun vs H Q E q => F.lenG _ _ _ _ (h vs H Q E q), fun A outer s H args us vs Q E g hr he hb hv hs => ?_⟩
  refine codeAny_mono (F.runG A outer s H args us vs _ E g hr he hb hv (h vs H Q E hs)) fun r s' c => ?_
  match r, c with
  | .ok (.ret u), ⟨v, H', os, bare, un, hok, rv, H'', fg, q⟩ => exact ⟨v, H'', os, bare, un_fg un fg, hok_fg he.hok hok fg, rv, q⟩
  | .error e, c => exact c
/-- a def of the text, by its body, where no guard lies below -/
theorem fng_of {x qual : Str} {params : Arguments} {body : List Stmt} {scope : Scope} {dvs : List V} {kws : List (Str × V)} {N : List Str}
    (F : FunD K x qual params body scope dvs kws f fd) (S : FnScope N ps scope) (len : ∀ vs H Q E, sp vs H Q E → vs.length = ps.length)
    (hbody : ∀ (cdv : Value) (A : Around) (outer : List Env) (s : Shared) (H : Hp) (vs : List V) (Q : VK) (E : XK), A.guards = some [] →
      Room k (A.deeper (envOfC qual scope s.heap.objs.size f cdv)) → sp vs H Q E →
      ∃ t, PSs (cxOf CX P w K mg base N qual scope f cdv A outer s H E) body t ∧ t { nx := fun _ H' => Q .non H', rt := Q } (start N vs) H) :
    FnG P w K mg base CX (k + 1) f fd ps sp := by
  obtain ⟨oc, od, dV, kV, doc, pm, an, cdv, ct, osl, rfl, lk, hcd, _, _⟩ := F.ex
  refine ⟨len, ?_⟩
  intro A outer s H args us vs Q E g hr e0 hb rv hsp
  have hl := len _ _ _ _ hsp
  have kx : K.In s.heap := e0.mod.kin.keeps (fun b o e => And.left (e0.bs b o e))
  have nl : s.heap.NoLimit := e0.mod.nolimit.keeps (fun b o e => And.left (e0.bs b o e))
  obtain ⟨t, ht, hq⟩ := hbody cdv A outer s H vs Q E g (hr.deeper _) hsp
  refine codeAny_call_function hr.depth (kx _ _ lk) rfl S.co S.gen rfl (PySem.W.codeRec_of kx hcd) (hb _ _ _ _ (wpAny_newFunctionEnv_cells S.kind ?_ ?_))
  · rintro ⟨n, v⟩ hy
    rcases S.par n (List.of_mem_zip hy).1 with z | z
    · exact Or.inl z
    · exact Or.inr ⟨z, PySem.W.cellsFrom_some _ _ _ (Or.inl z)⟩
  · rintro env rfl s1 x
    refine ⟨nl.keeps x.toInCall.keep, codeAny_func ?_⟩
    refine wpAny_mono (ht.run [] s1 (start N vs) H _ (inv_start S hr.hd e0 hl rv x) hq) ?_ (fun _ _ z => z)
    rintro (_ | _ | _ | u) s' hs
    · obtain ⟨σ', H', J, q⟩ := hs
      exact ⟨V.non, H', J.os, J.bare, J.base, J.hok, rfl, q⟩
    · exact (hs.elim fun _ z => z.elim fun _ z => z.2.elim)
    · exact (hs.elim fun _ z => z.elim fun _ z => z.2.elim)
    · obtain ⟨v, σ', H', J, r2, q⟩ := hs
      exact ⟨v, H', J.os, J.bare, J.base, J.hok, r2, q⟩
/-- a def by its name, with FnG's promise -/
structure CalG (P : Program) (w : World) (K : PySem.W.Frag) (mg : Str → Option Value) (base : Heap) (k : Nat) (x : Str) (sp : Sp) : Prop where
  gex : ∃ (f : Addr) (fd : FuncData) (ps : List Str), FnG P w K mg base CX0 k f fd ps sp ∧ mg x = some (.ref f) ∧ PySem.W.keepIn K (.ref f) = true ∧ Binds K fd ps []
theorem deeper_guards (A : Around) (env : Env) : (A.deeper env).guards = A.guards := rfl
end
section
variable {X : Cx} {k j : Nat} {x : Str} {sp : Sp} {p pos : Pos} {e : Expr} {es : List Expr} {t : TA}
theorem run_fng {f : Addr} {fd : FuncData} {ps : List Str} {CX : CXT} {E : XK} {pins : List (Addr × Obj)} {σ : L2.St} {H : Hp} {s : Shared} {Q : VK} {us : List Value} {vs : List V}
    (F : FnG X.prog X.w X.K X.mg X.base CX k f fd ps sp) (g : X.A.guards = some []) (hr : Room k X.A) (hb : Binds X.K fd ps []) (hx : Passes CX X E) (I : Inv X pins σ H s) (rv : Vals vs us) (h : sp vs H Q E) :
    wpAny (model X.prog X.w) X.A (call (.ref f) us) (EP X pins σ Q) X.xe s := by
  have hl : (us ++ []).length = ps.length := by
    rw [List.append_nil, ← rv.length]
    exact F.lenG _ _ _ _ h
  have hb2 := hb s us I.kIn hl
  rw [List.append_nil] at hb2
  refine wpAny_call (codeAny_mono (F.runG X.A X.stack s H ⟨us, []⟩ us vs Q E g hr I.env0 hb2 rv h) ?_)
  rintro (er | (_ | _ | _ | u)) s' hq
  · exact hx pins σ H s er s' I hq
  · exact hq.elim
  · exact hq.elim
  · exact hq.elim
  · exact I.after hq
theorem pe_cG (c : CalG X.prog X.w X.K X.mg X.base k x sp) (g : X.A.guards = some []) (hr : Room j X.A) (hk : k ≤ j) (hg : Gl X x) (ha : PA X (e :: es) t)
    (hdb : (x == ("__debug__" : Str)) = false := by decide) (he : starEach (e :: es) X.env = (false, eval e X.env) :: starEach es X.env := by rfl)
    (hpl : (backTo pos (starEach es X.env)).any (·.1) = false := by rfl) : PE X (.Call (.Name x p) (e :: es) [] pos) (tCall sp [] E0 t) := by
  obtain ⟨f, fd, ps, F, hm, kp, b⟩ := c.gex
  constructor
  intro pins s σ H Q I h
  refine wpAny_Call_Name_kw (ld_glob I hg hm ?_ hdb)
  refine PySem.W.callWith_K (h₀ := X.base) I.ok.mod.kin kp ?_ he hpl
  refine thn (ha.run pos pins s σ H _ I h) ?_
  rintro us s1 ⟨vs, H1, I1, r, q⟩
  refine ⟨I1.kIn, run_fng F g (hr.mono hk) b pass0 I1 r ?_⟩
  have q2 : sp (vs ++ []) H1 Q E0 := q
  rw [List.append_nil] at q2
  exact q2
end
/-! ### the end -/
theorem law_callG {P : Program} {w : World} {K : PySem.W.Frag} {mg mb : Str → Option Value} {CX : CXT} {k : Nat} {fa a : Addr} {fd : FuncData} {x : Str} {sp : Sp} {s₁ : Shared} {vs : List Value} {ns : List Int}
    (KX : K.In s₁.heap) (hns : s₁.heap.Ns mainGlobals mg) (hb : s₁.heap.Ns builtinsNs mb) (hbb : ∀ y : Str, y ≠ "__name__" → mb y = bootBuiltins y) (hlim : s₁.heap.NoLimit) (hg : s₁.gens = #[])
    (ha : s₁.heap.get? a = some { cls := .type "list", data := .seq vs.toArray }) (hi : IntsAre vs ns) (hl : ns.length ≤ sizeLine) (hr : Room k callerA)
    (F : ∀ base : Heap, K.In base → base.Ns mainGlobals mg → FnG P w K mg base CX k fa fd [x] sp) (hbind : ∀ (s : Shared) (u : Value), BindsTo s fd ⟨[u], []⟩ [(x, u)])
    (hsp : ∀ H : Hp, Only H → SqL K H a (ns.map V.int) → sp [.ref a] H (fun v _ => v = .bl true) (fun _ _ _ => False)) (hCX : ∀ H e s', CX [] H s₁ (fun _ _ _ => False) e s' → False) :
    codeAny (model P w) callerA (.call (.ref fa) ⟨[.ref a], []⟩) (fun r s' => r = .ok (.ret (.bool true)) ∧ OldK s₁.heap s'.heap ∧ s'.os = s₁.os ∧ AllBare s'.gens) s₁ := by
  have lenV := hi.length
  suffices core : ∀ H : Hp, Only H → SqL K H a (ns.map V.int) → HOk P w H s₁.heap → (∀ b, H b ≠ none → b = a) → (H a ≠ none → K.lookup a = none) →
      codeAny (model P w) callerA (.call (.ref fa) ⟨[.ref a], []⟩) (fun r s' => r = .ok (.ret (.bool true)) ∧ OldK s₁.heap s'.heap ∧ s'.os = s₁.os ∧ AllBare s'.gens) s₁ by
    cases hk : K.lookup a with
    | some o =>
      have e := (KX a o hk).symm.trans ha
      cases e
      refine core (fun _ => none) (fun _ => Or.inl rfl) (Or.inr ⟨_, vs.toArray, _, hk, rfl, rfl, rfl, ?_, ?_⟩) (fun b u z => ?_) (fun b z => absurd rfl z) (fun z => absurd rfl z)
      · rw [List.size_toArray, lenV]
        exact hl
      · rw [List.toList_toArray]
        exact vals_ints hi
      · exact nomatch (show (none : Option HO) = some u from z)
    | none =>
      let H0 : Hp := upd (fun _ => none) a (.frz { cls := .type "list", data := .seq vs.toArray } (.lst (ns.map V.int)))
      have at_ : ∀ b u, H0 b = some u → b = a ∧ u = .frz { cls := .type "list", data := .seq vs.toArray } (.lst (ns.map V.int)) := by
        intro b u z
        by_cases q : b = a
        · subst q
          have z2 : upd (fun _ => none) b (.frz { cls := .type "list", data := .seq vs.toArray } (.lst (ns.map V.int))) b = some u := z
          rw [upd_same] at z2
          exact ⟨rfl, (Option.some.inj z2).symm⟩
        · have z2 : upd (fun _ => none) a (.frz { cls := .type "list", data := .seq vs.toArray } (.lst (ns.map V.int))) b = some u := z
          rw [upd_ne q] at z2
          exact nomatch z2
      refine core H0 (fun b => ?_) (Or.inl (Or.inr ⟨_, upd_same⟩)) (fun b u z => ?_) (fun b z => ?_) (fun _ => hk)
      · cases q : H0 b with
        | none => exact Or.inl rfl
        | some u => exact Or.inr ⟨_, _, congrArg some (at_ b u q).2⟩
      · obtain ⟨rfl, rfl⟩ := at_ b u z
        refine ⟨ha, ?_, vs, _, vals_ints hi, ha⟩
        rw [List.length_map]
        exact hl
      · cases q : H0 b with
        | none => exact absurd q z
        | some u => exact (at_ b u q).1
  intro H hO hS hok hA hK
  have seqd : ∀ {b : Addr} {o : Obj} {es : Array DictEntry} {ep : Nat}, s₁.heap.get? b = some o → o.data = .dict es ep → H b = none := by
    intro b o es ep e d
    cases q : H b with
    | none => rfl
    | some u =>
      have z : b = a := hA b (by rw [q]; exact Option.some_ne_none u)
      rw [z, ha] at e
      cases e
      exact nomatch d
  have nsK : ∀ {b : Addr} {m : Str → Option Value}, s₁.heap.Ns b m → (hidT s₁.heap H).Ns b m := by
    rintro b m ⟨o, es, ep, e, d, r⟩
    exact ⟨o, es, ep, hidT_get e (seqd e d), d, r⟩
  have hKb : K.In (hidT s₁.heap H) := by
    intro b o e
    refine hidT_get (KX b o e) ?_
    cases q : H b with
    | none => rfl
    | some u =>
      have z : b = a := hA b (by rw [q]; exact Option.some_ne_none u)
      subst z
      rw [hK (by rw [q]; exact Option.some_ne_none u)] at e
      exact nomatch e
  obtain ⟨mc, h1, h2⟩ := hlim
  have hM : Mod K mg (hidT s₁.heap H) := ⟨hKb, nsK hns, ⟨mb, nsK hb, hbb⟩, ⟨mc, nsK h1, h2⟩⟩
  have e0 : Env0 P w K mg (hidT s₁.heap H) callerA [] s₁ H :=
    ⟨rfl, hM, fun b o e => of_hidT e, Nat.le_of_eq (hidT_size _ _), trivial, fun b z => (nomatch (show b ∈ ([] : List Addr) from z)), hok, .of_eq hg⟩
  refine codeAny_mono ((F _ hKb (nsK hns)).runG callerA [] s₁ H ⟨[.ref a], []⟩ [.ref a] [.ref a] _ _ rfl hr e0 (hbind s₁ (.ref a)) (.cons rfl .nil) (hsp H hO hS)) ?_
  rintro (er | (_ | _ | _ | u)) s' h
  · exact (hCX H er s' h).elim
  · exact h.elim
  · exact h.elim
  · exact h.elim
  · obtain ⟨v, H', os, bare, un, hok', r', q⟩ := h
    obtain rfl : v = .bl true := q
    obtain rfl : u = Value.bool true := r'
    refine ⟨rfl, OldK.of_keep ?_, os, bare⟩
    intro b o e
    cases q : H b with
    | none => exact un.keep b o e q (fun z => nomatch (show b ∈ ([] : List Addr) from z)) (fun z => nomatch z)
    | some y =>
      rcases hO b with z | ⟨ob, xs, z⟩
      · exact nomatch (q.symm.trans z)
      · have e1 := (hok b _ z).1
        have e2 := (hok' b _ (un.frzs b ob _ z)).1
        rw [e] at e1
        cases e1
        exact e2
theorem walk_ofG {l : PySem.W.OpenLaw} {n k : Nat} {q : Program} {loose : List Str} {XP : (Str → Option Value) → Heap → Prop} {YP : World → Heap → Prop} {d : DefRec} {CX : CXT} {x : Str}
    (hn : l.most = some n) (hn2 : n ≤ sizeLine) (hdf : d.params.defaults = []) (hr : Room k callerA)
    (F : ∀ (w : World) (mg : Str → Option Value) (fa : Addr) (h : Heap), YP w h → h.Ns mainGlobals mg → mg d.name = some (.ref fa) →
      ∃ (K : PySem.W.Frag) (fd : FuncData) (sp : Sp), K.In h ∧ (∀ (s : Shared) (u : Value), BindsTo s fd ⟨[u], []⟩ [(x, u)]) ∧
        (∀ (H : Hp) (a : Addr) (ns : List Int), ns.length ≤ n → Only H → SqL K H a (ns.map V.int) → sp [.ref a] H (fun v _ => v = .bl true) (fun _ _ _ => False)) ∧
        ∀ base : Heap, K.In base → base.Ns mainGlobals mg → FnG l.prog w K mg base CX k fa fd [x] sp)
    (hCX : ∀ (H : Hp) (s : Shared) (e : Value) (s' : Shared), CX [] H s (fun _ _ _ => False) e s' → False) :
    PySem.W.WalkO q loose XP YP l.row.toRowW d [] (fun f vs => PySem.call f vs) := by
  refine Att.attach_call hn hdf ?_
  intro w s₀ s₁ mg mb fa o pm cd doc a vs ns G Y ho hd hcd hmg hobj hints hlen hg
  obtain ⟨K, fd, sp, kx, hb, hsp, hF⟩ := F w mg fa _ Y G.T.g hmg
  exact law_callG kx G.T.g G.T.b G.T.builtins G.T.nolimit hg hobj hints (Nat.le_trans hlen hn2) hr hF hb (fun H hO hS => hsp H a ns hlen hO hS) (fun H e s' => hCX H s₁ e s')
end TB
/-! Steps of readings, rules of my own (divmod of great numbers, repr of data, a text from its end), loops. -/
namespace TB
open PySem PySem.Spec PyProof.Rows L2
/-! ### one step of a reading -/
section
variable {σ : L2.St} {H : Hp} {D : Ends} {Q : VK} {QT : Bool → Hp → Prop} {QA : List V → Hp → Prop} {t u : TS} {te ta tb : TE} {tc td : TT} {tl : TA} {g : TG} {i : Nat} {v x y : V}
theorem st_par {j : Nat} (h : tl σ H fun vs H1 => ∃ v w, vs = [v, w] ∧ D.nx ((σ.set i (some v)).set j (some w)) H1) : tPar i j tl D σ H := h
theorem st_seq (h : t { D with nx := u D } σ H) : tSeq t u D σ H := h
theorem st_next (h : D.nx σ H) : tNext D σ H := h
theorem st_drop (h : te σ H fun _ H1 => D.nx σ H1) : tDrop te D σ H := h
theorem st_ret (h : te σ H D.rt) : tRet te D σ H := h
theorem st_asg (h : te σ H fun x H1 => g x σ H1 D.nx) : tAsg te g D σ H := h
theorem st_name {R : L2.St → Hp → Prop} (h : R (σ.set i (some v)) H) : gName i v σ H R := h
theorem st_var (e : σ[i]? = some (some v)) (h : Q v H) : tVar i σ H Q := ⟨v, e, h⟩
theorem st_c (h : Q v H) : tC v σ H Q := h
theorem st_op {r : R2} (h : ta σ H fun x H1 => tb σ H1 fun y H2 => r x y H2 Q) : tOp r ta tb σ H Q := h
theorem st_un {r : V → Hp → VK → Prop} (h : ta σ H fun x H1 => r x H1 Q) : tUn r ta σ H Q := h
theorem st_cons (h : ta σ H fun x H1 => tl σ H1 fun xs H2 => QA (x :: xs) H2) : tCons ta tl σ H QA := h
theorem st_nil (h : QA [] H) : tNil σ H QA := h
theorem st_cb {r : List V → Hp → VK → Prop} (h : tl σ H fun vs H1 => r vs H1 Q) : tCB r tl σ H Q := h
theorem st_call {sp : Sp} {dvs : List V} {E : XK} (h : tl σ H fun vs H1 => sp (vs ++ dvs) H1 Q E) : tCall sp dvs E tl σ H Q := h
theorem st_ifs (h : tc σ H fun b H1 => if b = true then t D σ H1 else u D σ H1) : tIfS tc t u D σ H := h
theorem st_if (h : tc σ H fun b H1 => if b = true then ta σ H1 Q else tb σ H1 Q) : tIf tc ta tb σ H Q := h
theorem st_test (h : te σ H fun x H1 => ∃ k, x = .bl k ∧ QT k H1) : tTest te σ H QT := h
theorem st_tb (h : te σ H fun x H1 => ∃ k, x = .bl k ∧ QT k H1) : tB te σ H QT := h
theorem st_not (h : tc σ H fun c H1 => QT (!c) H1) : tNot tc σ H QT := h
theorem st_and (h : tc σ H fun c H1 => if c = true then td σ H1 QT else QT false H1) : tAnd tc td σ H QT := h
theorem st_or (h : tc σ H fun c H1 => if c = true then QT true H1 else td σ H1 QT) : tOr tc td σ H QT := h
theorem st_yes (h : QT true H) : tYes σ H QT := h
theorem st_lst (h : tl σ H fun xs H1 => xs.length ≤ sizeLine ∧ ∀ p, H1 p = none → Q (.ref p) (upd H1 p (.lst xs))) : tLst tl σ H Q := h
theorem st_tup (h : tl σ H fun xs H1 => xs.length ≤ sizeLine ∧ ∀ p, H1 p = none → Q (.ref p) (upd H1 p (.tup xs))) : tTup tl σ H Q := h
theorem st_bm {K : PySem.W.Frag} {T : String} {r : V → List V → Hp → VK → Prop} (h : te σ H fun x H1 => tyV K T x H1 ∧ tl σ H1 fun xs H2 => r x xs H2 Q) : tBM K T r te tl σ H Q := h
theorem st_m1 {r : V → List V → Hp → VK → Prop} (h : ta σ H fun x H1 => (∃ a, x = .str a) ∧ tb σ H1 fun y H2 => r x [y] H2 Q) : tM1 r ta tb σ H Q := h
theorem st_I0 {g : Int → Int → V} {i j : Int} (h : Q (g i j) H) : rI0 g (.int i) (.int j) H Q := ⟨i, j, rfl, rfl, h⟩
theorem st_I {C : Int → Int → Prop} {g : Int → Int → V} {i j : Int} (c : C i j) (h : Q (g i j) H) : rI C g (.int i) (.int j) H Q := ⟨i, j, rfl, rfl, c, h⟩
theorem st_eq (c : scal x y = true) (h : Q (.bl (decide (x = y))) H) : rEq x y H Q := ⟨c, h⟩
theorem st_ne (c : scal x y = true) (h : Q (.bl (!decide (x = y))) H) : rNe x y H Q := ⟨c, h⟩
theorem st_bl {P : Bool → Prop} {b : Bool} (h : P b) : ∃ k, V.bl b = V.bl k ∧ P k := ⟨b, rfl, h⟩
theorem st_gtup {K : PySem.W.Frag} {n : Nat} {tg : TGs} {a : Addr} {xs : List V} {R : L2.St → Hp → Prop} (hs : SqT K H a xs) (hn : xs.length = n) (h : tg xs σ H R) : gTup K n tg (.ref a) σ H R := ⟨a, xs, rfl, hs, hn, h⟩
theorem st_gcons {g : TG} {tg : TGs} {vs : List V} {R : L2.St → Hp → Prop} (h : g v σ H fun σ' H' => tg vs σ' H' R) : gCons g tg (v :: vs) σ H R := ⟨v, vs, rfl, h⟩
theorem st_gnil {R : L2.St → Hp → Prop} (h : R σ H) : gNil [] σ H R := ⟨rfl, h⟩
theorem st_gsub {R : L2.St → Hp → Prop} {ts : V → V → V → Hp → (Hp → Prop) → Prop} (h : ta σ H fun o H1 => tb σ H1 fun i H2 => ts o i v H2 fun H3 => R σ H3) : gSub ta tb ts v σ H R := h
theorem st_ixL {K : PySem.W.Frag} {p : Addr} {xs : List V} {i : Int} (hs : SqL K H p xs) (e : atI xs i = some v) (h : Q v H) : rIxL K (.ref p) (.int i) H Q := ⟨p, xs, i, v, rfl, rfl, hs, e, h⟩
theorem st_ixT {K : PySem.W.Frag} {p : Addr} {xs : List V} {i : Int} (hs : SqT K H p xs) (e : atI xs i = some v) (h : Q v H) : rIxT K (.ref p) (.int i) H Q := ⟨p, xs, i, v, rfl, rfl, hs, e, h⟩
theorem st_ixS {z : Str} {i : Int} {c : Nat} (hl : z.length ≤ sizeLine) (e : atI z.cps.toList i = some c) (h : Q (.str ⟨#[c]⟩) H) : rIxS (.str z) (.int i) H Q := ⟨z, i, c, rfl, rfl, hl, e, h⟩
theorem st_setL {p : Addr} {xs : List V} {k : Int} {j : Nat} {R : Hp → Prop} (e : H p = some (.lst xs)) (n : ixN xs.length k = some j) (h : R (upd H p (.lst (xs.set j v)))) : rSetL (.ref p) (.int k) v H R := ⟨p, xs, k, j, rfl, rfl, e, n, h⟩
theorem st_sl {r : V → Option Int → Option Int → Hp → VK → Prop} {lo hi : TO} (h : te σ H fun x H1 => lo σ H1 fun l H2 => hi σ H2 fun u H3 => r x l u H3 Q) : L2.tSl r te lo hi σ H Q := h
theorem st_nopart {QO : Option Int → Hp → Prop} (h : QO none H) : tNoPart σ H QO := h
theorem st_part {QO : Option Int → Hp → Prop} (h : te σ H fun x H1 => ∃ i, x = .int i ∧ QO (some i) H1) : tPart te σ H QO := h
theorem st_in {K : PySem.W.Frag} {p : Addr} {xs : List V} (hs : SqL K H p xs) (f : flatV x = true) (a : xs.all flatV = true) (h : Q (.bl (inV x xs)) H) : rIn K false x (.ref p) H Q := ⟨p, xs, rfl, Or.inl hs, f, a, h⟩
theorem st_nin {K : PySem.W.Frag} {p : Addr} {xs : List V} (hs : SqL K H p xs) (f : flatV x = true) (a : xs.all flatV = true) (h : Q (.bl (!inV x xs)) H) : rIn K true x (.ref p) H Q := ⟨p, xs, rfl, Or.inl hs, f, a, h⟩
theorem st_cat {l b : Addr} {xs zs : List V} (h1 : H l = some (.lst xs)) (h2 : H b = some (.lst zs)) (n : xs.length + zs.length ≤ sizeLine) (h : ∀ p, H p = none → Q (.ref p) (upd H p (.lst (xs ++ zs)))) : rCat (.ref l) (.ref b) H Q := ⟨l, b, xs, zs, rfl, rfl, h1, h2, n, h⟩
theorem st_append {l : Addr} {xs : List V} (h1 : H l = some (.lst xs)) (n : xs.length < sizeLine) (h : Q .non (upd H l (.lst (xs ++ [y])))) : rAppend (.ref l) [y] H Q := ⟨l, xs, y, rfl, rfl, h1, n, h⟩
end
/-! ### rules that name the written part by K (a comprehension's block has the same) -/
section
variable {X : Cx} {pos : Pos}
theorem ix_listK (K : PySem.W.Frag) (hK : X.K = K := by rfl) : IxR X (rIxL K) := by subst hK; exact ix_list
theorem ix_tupK (K : PySem.W.Frag) (hK : X.K = K := by rfl) : IxR X (rIxT K) := by subst hK; exact ix_tup
theorem sl_listK (K : PySem.W.Frag) (hK : X.K = K := by rfl) : SlR X (rSlL K) := by subst hK; exact sl_list
theorem sl_tupK (K : PySem.W.Frag) (hK : X.K = K := by rfl) : SlR X (rSlA K) := by subst hK; exact sl_tupA
theorem op_inK (K : PySem.W.Frag) (hK : X.K = K := by rfl) : OpR X (compareOp .In) (rIn K false) := by subst hK; exact op_in_seq
theorem op_ninK (K : PySem.W.Frag) (hK : X.K = K := by rfl) : OpR X (compareOp .NotIn) (rIn K true) := by subst hK; exact op_notIn_seq
theorem op_eqDK (K : PySem.W.Frag) (hu : X.A.units + 64 < cLine) (hK : X.K = K := by rfl) : OpR X (compareOp .Eq) (rEqD K) := by subst hK; exact op_eqD hu
theorem op_neDK (K : PySem.W.Frag) (hu : X.A.units + 64 < cLine) (hK : X.K = K := by rfl) : OpR X (compareOp .NotEq) (rNeD K) := by subst hK; exact op_neD hu
theorem op_catK (K : PySem.W.Frag) (hK : X.K = K := by rfl) : OpR X (binaryOp .Add) (rCatA K) := by subst hK; exact op_catA
theorem kBM (K : PySem.W.Frag) {e : Expr} {T : String} {r : V → List V → Hp → VK → Prop} {to : TE} {t : TA} (h : PE X e (tBM X.K T r to t)) (hK : X.K = K := by rfl) : PE X e (tBM K T r to t) := by subst hK; exact h
theorem kBM0 (K : PySem.W.Frag) {e : Expr} {T : String} {r : V → List V → Hp → VK → Prop} {to : TE} (h : PE X e (tBM0 X.K T r to)) (hK : X.K = K := by rfl) : PE X e (tBM0 K T r to) := by subst hK; exact h
theorem kFld (K : PySem.W.Frag) {e : Expr} {f : Str} {to : TE} (h : PE X e (tFld X.K to f)) (hK : X.K = K := by rfl) : PE X e (tFld K to f) := by subst hK; exact h
theorem kRevL (K : PySem.W.Frag) {e : Expr} {to : TE} (h : PE X e (tRevL X.K to)) (hK : X.K = K := by rfl) : PE X e (tRevL K to) := by subst hK; exact h
theorem kPI (K : PySem.W.Frag) {tg l : Expr} {to : TE} (h : PI X tg l (iList X.K to)) (hK : X.K = K := by rfl) : PI X tg l (iList K to) := by subst hK; exact h
theorem kPT (K : PySem.W.Frag) {tg l : Expr} {to : TE} (h : PI X tg l (iTup X.K to)) (hK : X.K = K := by rfl) : PI X tg l (iTup K to) := by subst hK; exact h
theorem kPEn (K : PySem.W.Frag) {tg l : Expr} {to : TA} (h : PI X tg l (iEnum X.K to)) (hK : X.K = K := by rfl) : PI X tg l (iEnum K to) := by subst hK; exact h
theorem kPZ (K : PySem.W.Frag) {tg l : Expr} {to : TA} (h : PI X tg l (iZip X.K to)) (hK : X.K = K := by rfl) : PI X tg l (iZip K to) := by subst hK; exact h
theorem kTup (K : PySem.W.Frag) (n : Nat) {tg : Expr} {t : TGs} (h : PG X tg (gTup X.K n t)) (hK : X.K = K := by rfl) : PG X tg (gTup K n t) := by subst hK; exact h
def rLenL (K : PySem.W.Frag) : List V → Hp → VK → Prop := fun xs H Q => ∃ p ys, xs = [.ref p] ∧ (SqL K H p ys ∨ SqT K H p ys) ∧ Q (.int ys.length) H
theorem call_lenK (K : PySem.W.Frag) (hK : X.K = K := by rfl) : CallR X (.builtin "len") (rLenL K) := by subst hK; exact call_len_seq
def rListL (K : PySem.W.Frag) : List V → Hp → VK → Prop := fun xs H Q => ∃ p ys, xs = [.ref p] ∧ (SqL K H p ys ∨ SqT K H p ys) ∧ ∀ l, H l = none → Q (.ref l) (upd H l (.lst ys))
theorem call_listK (K : PySem.W.Frag) (hK : X.K = K := by rfl) : CallR X (.type "list") (rListL K) := by subst hK; exact call_list_of
def rTupL (K : PySem.W.Frag) : List V → Hp → VK → Prop := fun xs H Q => ∃ p ys, xs = [.ref p] ∧ ((SqL K H p ys ∧ ∀ l, H l = none → Q (.ref l) (upd H l (.tup ys))) ∨ (SqT K H p ys ∧ Q (.ref p) H))
theorem call_tupK (K : PySem.W.Frag) (hK : X.K = K := by rfl) : CallR X (.type "tuple") (rTupL K) := by subst hK; exact call_tuple_of
def rJoin (K : PySem.W.Frag) : V → List V → Hp → VK → Prop := fun x xs H Q => ∃ a p, ∃ ys : List Str, x = .str a ∧ xs = [.ref p] ∧ (SqL K H p (ys.map V.str) ∨ SqT K H p (ys.map V.str)) ∧ (ys.map (·.length)).sum + ys.length * a.length ≤ 16777216 ∧ Q (.str (Txt.join a ys)) H
theorem pe_joinK (K : PySem.W.Frag) {o e : Expr} {to te : TE} {apos : Pos} (ho : PE X o to) (he : PE X e te) (hs : starEach [e] X.env = [(false, eval e X.env)] := by rfl)
    (hbase : attributeBase o "join" X.env (eval o X.env) = eval o X.env := by rfl) (hline : (apos.endLine == pos.line) = true := by rfl) (hK : X.K = K := by rfl) :
    PE X (.Call (.Attribute o "join" apos) [e] [] pos) (tM1 (rJoin K) to te) := by
  subst hK
  exact pe_join ho he hs hbase hline
def rInt1 : List V → Hp → VK → Prop := fun xs H Q => (∃ i, xs = [.int i] ∧ Q (.int i) H) ∨ ∃ k, xs = [.bl k] ∧ Q (.int (if k then 1 else 0)) H
theorem call_intB : CallR X (.type "int") rInt1 := call_int1
end
section
variable {H : Hp} {Q : VK}
theorem st_intB {b : Bool} (h : Q (.int (if b then 1 else 0)) H) : rInt1 [.bl b] H Q := Or.inr ⟨b, rfl, h⟩
theorem st_len {K : PySem.W.Frag} {p : Addr} {ys : List V} (hs : SqL K H p ys) (h : Q (.int ys.length) H) : rLenL K [.ref p] H Q := ⟨p, ys, rfl, Or.inl hs, h⟩
theorem st_list {K : PySem.W.Frag} {p : Addr} {ys : List V} (hs : SqL K H p ys) (h : ∀ l, H l = none → Q (.ref l) (upd H l (.lst ys))) : rListL K [.ref p] H Q := ⟨p, ys, rfl, Or.inl hs, h⟩
theorem st_join {K : PySem.W.Frag} {a : Str} {p : Addr} {ys : List Str} (hs : SqL K H p (ys.map V.str)) (n : (ys.map (·.length)).sum + ys.length * a.length ≤ 16777216) (h : Q (.str (Txt.join a ys)) H) : rJoin K (.str a) [.ref p] H Q := ⟨a, p, ys, rfl, rfl, Or.inl hs, n, h⟩
end
/-! ### heaps -/
theorem old_upd {H : Hp} {p a : Addr} {o u : HO} (n : H p = none) (h : H a = some u) : upd H p o a = some u := by
  rw [upd_ne (ne_of_none h n)]
  exact h
theorem oth_upd {H : Hp} {p a : Addr} {o u : HO} (n : a ≠ p) (h : H a = some u) : upd H p o a = some u := by
  rw [upd_ne n]
  exact h
theorem nil_upd {H : Hp} {p a : Addr} {o : HO} (h : upd H p o a = none) : a ≠ p ∧ H a = none := by
  by_cases q : a = p
  · subst q
    rw [upd_same] at h
    exact nomatch h
  · rw [upd_ne q] at h
    exact ⟨q, h⟩
theorem sqL_of {K : PySem.W.Frag} {H : Hp} {a : Addr} {xs : List V} (h : H a = some (.lst xs)) : SqL K H a xs := Or.inl (Or.inl h)
theorem sqT_of {K : PySem.W.Frag} {H : Hp} {a : Addr} {xs : List V} (h : H a = some (.tup xs)) : SqT K H a xs := Or.inl (Or.inl h)
theorem NoT.lst {H : Hp} {p : Addr} {xs : List V} (h : NoT H) : NoT (L2.upd H p (.lst xs)) := h.upd trivial
theorem NoT.tup {H : Hp} {p : Addr} {xs : List V} (h : NoT H) : NoT (L2.upd H p (.tup xs)) := h.upd trivial
theorem NoT.pot {H : Hp} {p q : Addr} (h : NoT H) : NoT (L2.upd H p (PotO q)) := h.upd trivial
/-- all that H tells but what stands at ls is told by H' too -/
def Kp (ls : List Addr) (H H' : Hp) : Prop := ∀ b o, H b = some o → b ∉ ls → H' b = some o
theorem Kp.refl {ls : List Addr} (H : Hp) : Kp ls H H := fun _ _ h _ => h
theorem Kp.trans {ls : List Addr} {H H1 H2 : Hp} (a : Kp ls H H1) (b : Kp ls H1 H2) : Kp ls H H2 := fun c o h n => b c o (a c o h n) n
theorem Kp.new {ls : List Addr} {H H' : Hp} {p : Addr} {o : HO} (k : Kp ls H H') (n : H' p = none) : Kp ls H (upd H' p o) := fun b u h m => old_upd n (k b u h m)
theorem Kp.mut {ls : List Addr} {H H' : Hp} {p : Addr} {o : HO} (k : Kp ls H H') (n : p ∈ ls) : Kp ls H (upd H' p o) := fun b u h m => oth_upd (fun e => m (by rw [e]; exact n)) (k b u h m)
theorem Kp.own {ls : List Addr} {H H' : Hp} {p : Addr} {o : HO} (k : Kp ls H H') (n : H p = none) : Kp ls H (upd H' p o) := fun b u h m => oth_upd (ne_of_none h n) (k b u h m)
theorem Kp.same {H H' : Hp} (k : Kp [] H H') : Same H H' := fun b o h => k b o h (by simp)
theorem Kp.sqL {K : PySem.W.Frag} {ls : List Addr} {H H' : Hp} {a : Addr} {xs : List V} (k : Kp ls H H') (n : a ∉ ls) (h : SqL K H a xs) : SqL K H' a xs := by
  rcases h with (h | ⟨o, h⟩) | h
  · exact Or.inl (Or.inl (k _ _ h n))
  · exact Or.inl (Or.inr ⟨o, k _ _ h n⟩)
  · exact Or.inr h
theorem sqL_new {K : PySem.W.Frag} {H : Hp} {p a : Addr} {o : HO} {xs : List V} (n : H p = none) (h : SqL K H a xs) : SqL K (upd H p o) a xs := (Kp.new (ls := []) (Kp.refl H) n).sqL (by simp) h
/-! ### divmod of any number by one that is not too great -/
theorem cdivP {i j : Int} (h0 : 0 < j) (h1 : j < 2 ^ 64) : CDivP i j := by
  refine ⟨h0, PyProof.noPylong_of_log2 ?_⟩
  have hn : j.natAbs < 2 ^ 64 := by omega
  exact Nat.lt_trans (PySem.Flt.log2_lt_of (by decide) hn) (by decide)
/-! ### repr of data -/
section
variable {X : Cx}
def rReprD (K : PySem.W.Frag) : List V → Hp → VK → Prop := fun xs H Q => ∃ v d, xs = [v] ∧ Dp K H v d ∧ d.showable = true ∧ d.depth ≤ 50 ∧ d.shown.length ≤ sizeLine ∧ Q (.str d.shown) H
theorem dp_noDict {K : PySem.W.Frag} {H : Hp} : ∀ {v : V} {d : PyData}, Dp K H v d → d.hasDict = false := by
  intro v d h
  induction h using Dp.rec (motive_2 := fun _ ds _ => PyData.hasDictAll ds = false) with
  | non => simp only [PyData.hasDict]
  | bl => simp only [PyData.hasDict]
  | int => simp only [PyData.hasDict]
  | str => simp only [PyData.hasDict]
  | lst _ _ ih => simp only [PyData.hasDict, ih]
  | tup _ _ ih => simp only [PyData.hasDict, ih]
  | nil => simp only [PyData.hasDictAll]
  | cons _ _ h1 h2 => simp only [PyData.hasDictAll, h1, h2, Bool.or_self]
theorem call_reprDX (hu : X.A.units + 64 < cLine) (g : X.A.guards = some []) : CallR X (.builtin "repr") (rReprD X.K) := by
  intro pins s σ H xs us Q I r h
  obtain ⟨v, d, rfl, hd, hs, hdp, hz, q⟩ := h
  obtain ⟨u, rfl, rv⟩ : ∃ u, us = [u] ∧ RelV v u := by
    cases r with
    | cons r1 r2 => cases r2 with
      | nil => exact ⟨_, rfl, r1⟩
  obtain ⟨as, rd⟩ := Dp.reads I d v u hd rv
  cases hd with
  | non =>
    cases rv
    simp only [PyData.shown] at q
    exact PySem.P.repr_of_none ⟨.str _, H, I.tok _, ⟨_, rfl⟩, q⟩
  | bl b =>
    cases rv
    simp only [PyData.shown] at q
    refine PySem.P.repr_of_bool ⟨.str _, H, I.tok _, ⟨_, rfl⟩, ?_⟩
    cases b <;> exact q
  | int i =>
    obtain ⟨t, rfl⟩ := rv
    simp only [PyData.shown] at q
    exact PySem.P.repr_of_int (by simpa [PyData.showable] using hs) ⟨.str _, H, I.tok _, ⟨_, rfl⟩, q⟩
  | str x =>
    obtain ⟨t, rfl⟩ := rv
    simp only [PyData.shown] at q hz
    exact PySem.P.repr_of_str ⟨.str _, H, I.tok _, ⟨_, rfl⟩, q⟩ hz
  | lst hl ha =>
    cases rv
    refine repr_of_reads' rd hs (fun z => ?_) g (by omega) (fun _ _ e => e) (fun h' t tk hk => ⟨.str _, H, I.kept hk, ⟨_, rfl⟩, q⟩) hz
    rw [dp_noDict (.lst hl ha)] at z
    exact nomatch z
  | tup hl ha =>
    cases rv
    refine repr_of_reads' rd hs (fun z => ?_) g (by omega) (fun _ _ e => e) (fun h' t tk hk => ⟨.str _, H, I.kept hk, ⟨_, rfl⟩, q⟩) hz
    rw [dp_noDict (.tup hl ha)] at z
    exact nomatch z
theorem call_reprD (K : PySem.W.Frag) (hu : X.A.units + 64 < cLine) (g : X.A.guards = some []) (hK : X.K = K := by rfl) : CallR X (.builtin "repr") (rReprD K) := by
  subst hK
  exact call_reprDX hu g
end
end TB
/-! Loops and comprehensions over what has known items; names. -/
namespace TB
open PySem PySem.Spec PyProof.Rows L2
/-- the walk J yields xs, one behind another, as long as ok -/
structure Wk (J : It) (xs : List V) (ok : Hp → Prop) : Prop where
  go : ∀ i H, ok H → i < xs.length → J.go i H
  stop : ∀ i H, ok H → xs.length ≤ i → J.stop i H
  yld : ∀ i H x H', ok H → i < xs.length → J.yld i H x H' → H' = H ∧ xs[i]? = some x
theorem wk_list {K : PySem.W.Frag} {a : Addr} {xs : List V} : Wk (Itl K a) xs (fun H => SqL K H a xs) :=
  ⟨fun i H h l => ⟨xs, xs[i], h, List.getElem?_eq_getElem l⟩, fun i H h l => ⟨xs, h, l⟩, fun i H x H' h _ y => ⟨y.1, y.2 xs h⟩⟩
theorem wk_tup {K : PySem.W.Frag} {a : Addr} {xs : List V} : Wk (Itt K a) xs (fun H => SqT K H a xs) :=
  ⟨fun i H h l => ⟨xs, xs[i], h, List.getElem?_eq_getElem l⟩, fun i H h l => ⟨xs, h, l⟩, fun i H x H' h _ y => ⟨y.1, y.2 xs h⟩⟩
theorem wk_range {n : Nat} : Wk (Itr 0 n) ((List.range n).map fun i : Nat => V.int (i : Int)) (fun _ => True) := by
  refine ⟨fun i H _ l => ?_, fun i H _ l => ?_, fun i H x H' _ l y => ?_⟩
  · rw [List.length_map, List.length_range] at l
    exact l
  · rw [List.length_map, List.length_range] at l
    exact l
  · obtain ⟨e, z⟩ := y
    refine ⟨e, ?_⟩
    rw [List.length_map, List.length_range] at l
    rw [List.getElem?_map, List.getElem?_range l, z]
    show some (V.int (i : Int)) = some (V.int (0 + (i : Int)))
    rw [Int.zero_add]
def signV (c : Nat) : V := .str ⟨#[c]⟩
theorem wk_str {z : Str} : Wk (Its z) (z.cps.toList.map signV) (fun _ => True) := by
  refine ⟨fun i H _ l => ?_, fun i H _ l => ?_, fun i H x H' _ l y => ?_⟩
  · rw [List.length_map] at l
    exact l
  · rw [List.length_map] at l
    exact l
  · obtain ⟨e, c, hc, rfl⟩ := y
    refine ⟨e, ?_⟩
    rw [List.getElem?_map, Array.getElem?_toList, hc]
    rfl
/-- what a for loop over J asks -/
def ForG (J : It) (g : TG) (tb : TS) (D : Ends) (σ : L2.St) (H : Hp) : Prop := ∃ W : Nat → Nat → L2.St → Hp → Prop, (∃ m, W 0 m σ H) ∧ ∀ i m σ H, W i m σ H →
  (J.stop i H ∧ D.nx σ H) ∨ (J.go i H ∧ ∃ N : L2.St → Hp → Prop, (∀ σ' H', N σ' H' → ∃ m', m' < m ∧ W (i + 1) m' σ' H') ∧ ∀ x H', J.yld i H x H' → g x σ H' fun σ2 H2 => tb { D with nx := N, ct := N, bk := D.nx } σ2 H2)
/-- what a list comprehension over J asks -/
def LcG (J : It) (g : TG) (tt : TT) (te : TE) (vs : List Nat) (σ : L2.St) (Q : VK) (H1 : Hp) : Prop := ∀ D, H1 D = none → ∃ W : Nat → Nat → Hp → Prop, (∃ m, W 0 m (upd H1 D (.lst []))) ∧ ∀ i m H, W i m H →
  (J.stop i H ∧ Q (.ref D) H) ∨ (J.go i H ∧ ∃ Nx : Hp → Prop, (∀ H', Nx H' → ∃ m', m' < m ∧ W (i + 1) m' H') ∧ ∀ x H', J.yld i H x H' → g x (wipe σ vs) H' fun σ2 H2 => wipe σ2 vs = wipe σ vs ∧ tt σ2 H2 fun b H3 =>
    if b = true then te σ2 H3 fun y H4 => ∃ acc, H4 D = some (.lst acc) ∧ acc.length < sizeLine ∧ Nx (upd H4 D (.lst (acc ++ [y]))) else Nx H3)
section
variable {σ : L2.St} {H : Hp} {Q : VK} {wi : TI} {g : TG} {tt : TT} {te tl : TE} {ta : TA} {vs : List Nat} {tb : TS} {D : Ends} {R : It → Hp → Prop} {K : PySem.W.Frag}
theorem st_for (h : wi σ H fun J H1 => ForG J g tb D σ H1) : tFor wi g tb D σ H := h
theorem st_lc (h : wi σ H fun J H1 => LcG J g tt te vs σ Q H1) : tLc wi g tt te vs σ H Q := h
theorem st_rng1 (h : ta σ H fun vs H1 => ∃ j : Int, vs = [.int j] ∧ -(2 ^ 62) ≤ j ∧ j < 2 ^ 62 ∧ R (Itr 0 j.toNat) H1) : iRng1 ta σ H R := h
theorem st_il (h : tl σ H fun x H1 => ∃ a, x = .ref a ∧ (∃ xs, SqL K H1 a xs) ∧ R (Itl K a) H1) : iList K tl σ H R := h
theorem st_is (h : tl σ H fun v H1 => ∃ x, v = .str x ∧ R (Its x) H1) : iStr tl σ H R := h
theorem st_ie (h : ta σ H fun vs H1 => ∃ a xs, vs = [.ref a] ∧ SqL K H1 a xs ∧ R (Ite K a) H1) : iEnum K ta σ H R := h
end
section
variable {J : It} {xs : List V} {ok : Hp → Prop} {g : TG} {tb : TS} {D : Ends} {σ : L2.St} {H : Hp}
/-- a for loop, by what holds ahead of each turn -/
theorem for_walk (w : Wk J xs ok) (Pv : Nat → L2.St → Hp → Prop) (h0 : Pv 0 σ H) (hk : ∀ i σ H, Pv i σ H → ok H)
    (hs : ∀ i x σ H, xs[i]? = some x → Pv i σ H → g x σ H fun σ2 H2 => tb { D with nx := Pv (i + 1), ct := Pv (i + 1), bk := D.nx } σ2 H2) (hd : ∀ σ H, Pv xs.length σ H → D.nx σ H) : ForG J g tb D σ H := by
  refine ⟨fun i m σ H => m = xs.length - i ∧ i ≤ xs.length ∧ Pv i σ H, ⟨xs.length, by simp, Nat.zero_le _, h0⟩, ?_⟩
  rintro i m σ H ⟨rfl, hi, p⟩
  by_cases lt : i < xs.length
  · refine Or.inr ⟨w.go i H (hk i σ H p) lt, Pv (i + 1), fun σ' H' p' => ⟨xs.length - (i + 1), by omega, rfl, lt, p'⟩, fun x H' y => ?_⟩
    obtain ⟨rfl, e⟩ := w.yld i H x H' (hk i σ H p) lt y
    exact hs i x σ _ e p
  · obtain rfl : i = xs.length := by omega
    exact Or.inl ⟨w.stop _ H (hk _ σ H p) (Nat.le_refl _), hd σ H p⟩
end
section
variable {J : It} {xs : List V} {ok : Hp → Prop} {g : TG} {tt : TT} {te : TE} {vs : List Nat} {σ : L2.St} {H1 : Hp} {Q : VK}
/-- a list comprehension: acc is what stands in the new list at D -/
theorem lc_walk (w : Wk J xs ok) (Pv : Addr → Nat → List V → Hp → Prop) (h0 : ∀ D, H1 D = none → Pv D 0 [] (upd H1 D (.lst []))) (hk : ∀ D i acc H, Pv D i acc H → ok H)
    (hs : ∀ D i x acc H, H1 D = none → xs[i]? = some x → Pv D i acc H → g x (wipe σ vs) H fun σ2 H2 => wipe σ2 vs = wipe σ vs ∧ tt σ2 H2 fun b H3 =>
      if b = true then te σ2 H3 fun y H4 => ∃ acc', H4 D = some (.lst acc') ∧ acc'.length < sizeLine ∧ ∃ a2, Pv D (i + 1) a2 (upd H4 D (.lst (acc' ++ [y]))) else ∃ a2, Pv D (i + 1) a2 H3)
    (hd : ∀ D acc H, H1 D = none → Pv D xs.length acc H → Q (.ref D) H) : LcG J g tt te vs σ Q H1 := by
  intro D nD
  refine ⟨fun i m H => m = xs.length - i ∧ i ≤ xs.length ∧ ∃ acc, Pv D i acc H, ⟨xs.length, by simp, Nat.zero_le _, [], h0 D nD⟩, ?_⟩
  rintro i m H ⟨rfl, hi, acc, p⟩
  by_cases lt : i < xs.length
  · refine Or.inr ⟨w.go i H (hk D i acc H p) lt, fun H' => ∃ acc, Pv D (i + 1) acc H', fun H' p' => ⟨xs.length - (i + 1), by omega, rfl, lt, p'⟩, fun x H' y => ?_⟩
    obtain ⟨rfl, e⟩ := w.yld i H x H' (hk D i acc H p) lt y
    exact hs D i x acc _ nD e p
  · obtain rfl : i = xs.length := by omega
    exact Or.inl ⟨w.stop _ H (hk D _ acc H p) (Nat.le_refl _), hd D acc H nD p⟩
end
section
variable {K : PySem.W.Frag} {a : Addr} {xs : List V} {i1 i2 : Nat} {tb : TS} {D : Ends} {σ : L2.St} {H : Hp}
/-- for i, x in enumerate(xs) -/
theorem for_enum (Pv : Nat → L2.St → Hp → Prop) (h0 : Pv 0 σ H) (hk : ∀ i σ H, Pv i σ H → SqL K H a xs)
    (hs : ∀ (i : Nat) x σ H T, xs[i]? = some x → Pv i σ H → H T = none → tb { D with nx := Pv (i + 1), ct := Pv (i + 1), bk := D.nx } ((σ.set i1 (some (.int (i : Int)))).set i2 (some x)) (upd H T (.tup [.int (i : Int), x])))
    (hd : ∀ σ H, Pv xs.length σ H → D.nx σ H) : ForG (Ite K a) (gTup K 2 (gCons (gName i1) (gCons (gName i2) gNil))) tb D σ H := by
  refine ⟨fun i m σ H => m = xs.length - i ∧ i ≤ xs.length ∧ Pv i σ H, ⟨xs.length, by simp, Nat.zero_le _, h0⟩, ?_⟩
  rintro i m σ H ⟨rfl, hi, p⟩
  have sq := hk i σ H p
  by_cases lt : i < xs.length
  · refine Or.inr ⟨⟨xs, xs[i], sq, List.getElem?_eq_getElem lt⟩, Pv (i + 1), fun σ' H' p' => ⟨xs.length - (i + 1), by omega, rfl, lt, p'⟩, fun v H' y => ?_⟩
    obtain ⟨T, x, rfl, nT, rfl, e⟩ := y
    exact ⟨T, _, rfl, sqT_of upd_same, rfl, _, _, rfl, _, _, rfl, rfl, hs i x σ H T (e xs sq) p nT⟩
  · obtain rfl : i = xs.length := by omega
    exact Or.inl ⟨⟨xs, sq, Nat.le_refl _⟩, hd σ H p⟩
end
/-- a tracked thing changed, nothing new told -/
theorem Fg.mut1 {H H' : Hp} {p : Addr} {o u : HO} (k : Kp [p] H H') (n : NoT H) (e : H p = some u) (e' : H' p = some o) (no : noT o) (lo : ∀ H, leans H p o) (nu : ∀ y, u ≠ .own y) : Fg H H' (upd H p o) := by
  have lk : ∀ (a : Addr) (v : HO), leans H a v → leans (upd H p o) a v := by
    intro a v
    induction v with
    | ins C dx fs =>
      intro l
      have l2 : H dx = some (.own a) := l
      exact oth_upd (fun z => nu a (by rw [z, e] at l2; exact Option.some.inj l2)) l2
    | frz ob v ih => exact fun l => ih l
    | _ => exact fun _ => trivial
  refine ⟨fun b v q => ?_, fun b v v' q q' => ?_, fun a v q z => ?_, fun a v q l v' q' => ?_, n.upd no⟩
  · by_cases hb : b = p
    · subst hb
      rw [upd_same] at q
      cases q
      exact e'
    · rw [upd_ne hb] at q
      exact k b v q (by simpa using hb)
  · by_cases hb : b = p
    · subst hb
      rw [upd_same, ← q']
      exact e'.symm
    · rw [upd_ne hb, ← q', k b v q (by simpa using hb)]
      exact q
  · by_cases hb : a = p
    · rw [hb, e] at z
      exact nomatch z
    · rw [upd_ne hb, z] at q
      exact nomatch q
  · by_cases hb : a = p
    · subst hb
      rw [upd_same] at q'
      cases q'
      exact lo _
    · rw [upd_ne hb, q] at q'
      cases q'
      exact lk a v l
/-! ### names -/
abbrev tl (z : Str) : List Nat := z.cps.toList
theorem str_ext {a b : Str} (h : tl a = tl b) : a = b := by
  obtain ⟨⟨x⟩⟩ := a
  obtain ⟨⟨y⟩⟩ := b
  have e : x = y := h
  rw [e]
theorem erase_perm {α : Type} : ∀ {l : List α} {j : Nat} (h : j < l.length), ([l[j]] ++ l.eraseIdx j).Perm l
  | a :: r, 0, _ => List.Perm.refl _
  | a :: r, j + 1, h => by
    have ih := erase_perm (l := r) (j := j) (Nat.lt_of_succ_lt_succ h)
    have hj : j < r.length := Nat.lt_of_succ_lt_succ h
    show (r[j]'hj :: (a :: r.eraseIdx j)).Perm (a :: r)
    exact (List.Perm.swap a (r[j]'hj) _).trans (List.Perm.cons a ih)
theorem erase_map {α β : Type} (f : α → β) : ∀ (l : List α) (j : Nat), (l.map f).eraseIdx j = (l.eraseIdx j).map f
  | [], _ => rfl
  | _ :: _, 0 => rfl
  | a :: r, j + 1 => by
    show f a :: (r.map f).eraseIdx j = f a :: (r.eraseIdx j).map f
    rw [erase_map f r j]
/-- one to eight small letters -/
def Nm (z : Str) : Prop := 1 ≤ (tl z).length ∧ (tl z).length ≤ 8 ∧ ∀ c ∈ tl z, 97 ≤ c ∧ c ≤ 122
def nmB (z : Str) : Bool := decide (1 ≤ (tl z).length) && (decide ((tl z).length ≤ 8) && (tl z).all fun c => decide (97 ≤ c) && decide (c ≤ 122))
theorem nm_of {z : Str} (h : nmB z = true) : Nm z := by
  unfold nmB at h
  simp only [Bool.and_eq_true, decide_eq_true_eq, List.all_eq_true] at h
  exact ⟨h.1, h.2.1, h.2.2⟩
theorem beq_str (a b : Str) : (a == b) = decide (a = b) := by
  cases h : (a == b) with
  | true => exact (decide_eq_true (eq_of_beq h)).symm
  | false => exact (decide_eq_false (fun e => by rw [e] at h; exact Bool.false_ne_true (h.symm.trans (beq_self_eq_true b)))).symm
theorem inV_strs (z : Str) (ws : List Str) : inV (.str z) (ws.map V.str) = decide (z ∈ ws) := by
  unfold inV
  induction ws with
  | nil => simp
  | cons a r ih =>
    rw [List.map_cons, List.any_cons, ih]
    show ((a == z) || decide (z ∈ r)) = decide (z ∈ a :: r)
    rw [beq_str]
    by_cases e : a = z
    · subst e
      simp
    · have e2 : ¬ z = a := fun q => e q.symm
      simp [e, e2]
theorem flat_strs (ws : List Str) : (ws.map V.str).all flatV = true := by
  rw [List.all_eq_true]
  intro v hv
  obtain ⟨z, _, rfl⟩ := List.mem_map.mp hv
  rfl
/-- an item of a short list at a drawn place -/
theorem at_some {xs : List V} {d : Int} (h0 : 0 ≤ d) (h1 : d < (xs.length : Int)) : ∃ v, v ∈ xs ∧ atI xs d = some v := by
  obtain ⟨j, rfl⟩ : ∃ j : Nat, d = (j : Int) := ⟨d.toNat, by omega⟩
  have hj : j < xs.length := by omega
  exact ⟨xs[j], List.getElem_mem hj, atI_nat (List.getElem?_eq_getElem hj)⟩
theorem at_some' {α : Type} {xs : List α} {d : Int} (h0 : 0 ≤ d) (h1 : d < (xs.length : Int)) : ∃ (j : Nat) (hj : j < xs.length), d = (j : Int) ∧ atI xs d = some xs[j] := by
  obtain ⟨j, rfl⟩ : ∃ j : Nat, d = (j : Int) := ⟨d.toNat, by omega⟩
  have hj : j < xs.length := by omega
  exact ⟨j, hj, rfl, atI_nat (List.getElem?_eq_getElem hj)⟩
theorem joinL_signs : ∀ cs : List Nat, TL.joinL [] (cs.map fun c => [c]) = cs
  | [] => rfl
  | [c] => rfl
  | c :: d :: r => by
    have ih := joinL_signs (d :: r)
    show [c] ++ [] ++ TL.joinL [] ((d :: r).map fun c => [c]) = c :: d :: r
    rw [ih]
    rfl
theorem join_signs (cs : List Nat) : Txt.join "" (cs.map fun c => (⟨#[c]⟩ : Str)) = ⟨cs.toArray⟩ := by
  have e := SX.join_S [] (cs.map fun c => [c])
  rw [joinL_signs, List.map_map] at e
  exact e
theorem signs_fit {cs : List Nat} (h : cs.length ≤ 1000) : ((cs.map fun c => (⟨#[c]⟩ : Str)).map (·.length)).sum + (cs.map fun c => (⟨#[c]⟩ : Str)).length * ("" : Str).length ≤ 16777216 := by
  have e : ∀ l : List Nat, ((l.map fun c => (⟨#[c]⟩ : Str)).map (·.length)).sum = l.length := by
    intro l
    induction l with
    | nil => rfl
    | cons a r ih =>
      rw [List.map_cons, List.map_cons, List.sum_cons, ih, List.length_cons]
      show 1 + r.length = r.length + 1
      omega
  have z : ("" : Str).length = 0 := rfl
  rw [e, z]
  omega
theorem nodup_le {α : Type} [DecidableEq α] : ∀ {l m : List α}, l.Nodup → (∀ x ∈ l, x ∈ m) → l.length ≤ m.length
  | [], _, _, _ => Nat.zero_le _
  | x :: l, m, h, s => by
    obtain ⟨h1, h2⟩ := List.nodup_cons.mp h
    have hx : x ∈ m := s x (List.mem_cons_self ..)
    have ih := nodup_le (l := l) (m := m.erase x) h2 fun y hy => (List.mem_erase_of_ne (fun e => h1 (by rw [← e]; exact hy))).mpr (s y (List.mem_cons_of_mem _ hy))
    rw [List.length_erase_of_mem hx] at ih
    have : 0 < m.length := List.length_pos_of_mem hx
    rw [List.length_cons]
    omega
def abc : List Nat := tl "abcdefghijklmnopqrstuvwxyz"
/-- fewer than twenty-six names leave a letter -/
theorem free_letter {ws : List Str} (h : ws.length < 26) : ∃ c r, abc.filter (fun c => !decide ((⟨#[c]⟩ : Str) ∈ ws)) = c :: r ∧ c ∈ abc ∧ (⟨#[c]⟩ : Str) ∉ ws := by
  cases e : abc.filter (fun c => !decide ((⟨#[c]⟩ : Str) ∈ ws)) with
  | cons c r =>
    have hc : c ∈ abc.filter (fun c => !decide ((⟨#[c]⟩ : Str) ∈ ws)) := by
      rw [e]
      exact List.mem_cons_self ..
    obtain ⟨h1, h2⟩ := List.mem_filter.mp hc
    refine ⟨c, r, rfl, h1, ?_⟩
    simpa using h2
  | nil =>
    have all : ∀ x ∈ abc.map (fun c => (⟨#[c]⟩ : Str)), x ∈ ws := by
      intro x hx
      obtain ⟨c, hc, rfl⟩ := List.mem_map.mp hx
      have := List.filter_eq_nil_iff.mp e c hc
      simpa using this
    have nd : (abc.map (fun c => (⟨#[c]⟩ : Str))).Nodup := by decide +kernel
    have := nodup_le nd all
    have l26 : (abc.map (fun c => (⟨#[c]⟩ : Str))).length = 26 := by decide +kernel
    omega
theorem abc_nm {c : Nat} (h : c ∈ abc) : Nm ⟨#[c]⟩ := by
  have all : ∀ c ∈ abc, 97 ≤ c ∧ c ≤ 122 := by decide +kernel
  refine ⟨by show 1 ≤ 1; decide, by show 1 ≤ 8; decide, fun d hd => ?_⟩
  have e : d = c := by simpa [tl] using hd
  subst e
  exact all d h
end TB
/-! A text from its end. -/
namespace TB
open PySem PySem.Spec PyProof.Rows L2
def revS (z : Str) : Str := ⟨z.cps.toList.reverse.toArray⟩
theorem revS_eq (z : Str) (u : Tok) : Txt.sliceBy z none none (-1, u) = revS z := by
  refine str_ext ?_
  show (Txt.sliceBy z none none (-1, u)).cps.toList = z.cps.toList.reverse.toArray.toList
  rw [step_rev_list, List.toList_toArray]
  apply List.ext_getElem?
  intro i
  rw [List.getElem?_map]
  by_cases h : i < z.length
  · have h2 : i < z.cps.toList.length := by
      rw [Array.length_toList]
      exact h
    rw [List.getElem?_range h, List.getElem?_reverse h2, Array.getElem?_toList]
    have h3 : z.length - 1 - i < z.cps.size := by
      have : z.length = z.cps.size := rfl
      omega
    rw [Array.length_toList, show z.cps.size - 1 - i = z.length - 1 - i from rfl, Array.getElem?_eq_getElem h3]
    show some (z.cps.getD (z.length - 1 - i) 0) = _
    rw [Array.getD, dif_pos h3]
    rfl
  · have l1 : (List.range z.length).length ≤ i := by
      rw [List.length_range]
      omega
    have l2 : z.cps.toList.reverse.length ≤ i := by
      rw [List.length_reverse, Array.length_toList]
      have : z.length = z.cps.size := rfl
      omega
    rw [List.getElem?_eq_none l1, List.getElem?_eq_none l2]
    rfl
theorem cut_to (xs : List V) (i : Nat) : cutV xs none (some (i : Int)) = xs.take i := by
  unfold cutV
  rw [HT.sIx_none, HT.sIx_nat, List.drop_zero, Nat.sub_zero]
  rcases Nat.le_total i xs.length with h | h
  · rw [Nat.min_eq_left h]
  · rw [Nat.min_eq_right h, List.take_length, List.take_of_length_le h]
theorem cut_from (xs : List V) (i : Nat) : cutV xs (some (i : Int)) none = xs.drop i := by
  unfold cutV
  rw [HT.sIx_none, HT.sIx_nat]
  rcases Nat.le_total i xs.length with h | h
  · rw [Nat.min_eq_left h, List.take_of_length_le (by rw [List.length_drop]; exact Nat.le_refl _)]
  · rw [Nat.min_eq_right h, Nat.sub_self, List.take_zero, List.drop_of_length_le h]
section
variable {X : Cx}
def tRevS (te : TE) : TE := fun σ H Q => te σ H fun x H1 => ∃ z, x = .str z ∧ z.length ≤ sizeLine ∧ Q (.str (revS z)) H1
theorem pe_revS {e : Expr} {te : TE} {k : Nat} {p1 p2 p3 pos : Pos} (he : PE X e te) : PE X (.Subscript e (.Slice none none (some (.UnaryOp .USub (.Constant (.int 1) k p1) p2)) p3) pos) (tRevS te) := by
  constructor
  intro pins s σ H Q I h
  refine Subscript_ (thn (he.run pins s σ H _ I h) ?_)
  rintro v s1 ⟨x, H1, I1, r1, z, rfl, hz, q⟩
  obtain ⟨t, rfl⟩ := r1
  have hst : PO X (some (.UnaryOp .USub (.Constant (.int 1) k p1) p2)) (tPart (tUn (rU fun i => .int (-i)) (tC (.int 1)))) := po_some (pe_un un_neg pe_int)
  refine wpAny_Slice (thn (po_none.run pins s1 σ H1 (fun o H2 => o = none ∧ H2 = H1) I1 ⟨rfl, rfl⟩) ?_)
  rintro vl s2 ⟨l, H2, I2, pl, rfl, rfl⟩
  refine thn (po_none.run pins s2 σ H2 (fun o H3 => o = none ∧ H3 = H2) I2 ⟨rfl, rfl⟩) ?_
  rintro vu s3 ⟨u, H3, I3, pu, rfl, rfl⟩
  refine thn (hst.run pins s3 σ H3 (fun o H4 => o = some (-1) ∧ H4 = H3) I3 ⟨1, rfl, -1, rfl, rfl, rfl⟩) ?_
  rintro vs s4 ⟨o, H4, I4, ps, rfl, rfl⟩
  cases pl
  cases pu
  cases ps with
  | int _ tk =>
    refine tail_any (ops := [.str z t, .ref s4.heap.objs.size]) (typeIs_str _ z t) F.slot_str_getitem.lookup ?_ (by with_unfolding_all rfl)
    refine wpAny_getItem_str_slice (l := none) (u := none) (st := some (-1, tk)) ⟨_, Heap.get?_push_size _ rfl, rfl, rfl⟩ rfl ?_
    have I5 := I4.kept (t' := s4.toks) (h' := s4.heap.push { cls := .type "slice", data := .fields #[Value.none, Value.none, .int (-1) tk] }) (fun b ob q => Heap.get?_push_of_some _ q)
    have hn : ¬ (((((some (((-1 : Int), tk))).map (·.1)).getD 1 == 1 && (slicePicked z none none (some (-1, tk))).length == z.length)) = true) := by
      intro c
      have : ((-1 : Int) == 1) = true := (Bool.and_eq_true_iff.mp c).1
      exact nomatch this
    have ev : revS z = ⟨((slicePicked z none none (some (-1, tk))).filterMap (z.cps[·]?)).toArray⟩ := by
      rw [← revS_eq z tk]
      unfold Txt.sliceBy
      rw [if_neg hn]
    unfold sliceMade
    rw [if_neg hn]
    rw [ev] at q
    refine ⟨?_, .str _, H4, I5.tok _, ⟨_, rfl⟩, q⟩
    rw [← ev]
    show (z.cps.toList.reverse.toArray).size ≤ sizeLine
    rw [List.size_toArray, List.length_reverse, Array.length_toList]
    exact hz
end
theorem st_revS {σ : L2.St} {H : Hp} {Q : VK} {te : TE} (h : te σ H fun x H1 => ∃ z, x = .str z ∧ z.length ≤ sizeLine ∧ Q (.str (revS z)) H1) : tRevS te σ H Q := h
theorem st_revL {K : PySem.W.Frag} {σ : L2.St} {H : Hp} {Q : VK} {te : TE} (h : te σ H fun x H1 => ∃ a xs, x = .ref a ∧ SqL K H1 a xs ∧ ∀ p, H1 p = none → Q (.ref p) (upd H1 p (.lst xs.reverse))) : tRevL K te σ H Q := h
end TB
/-! Data that repr shows: lists of texts, of numbers, of such lists; how long their texts are. -/
namespace TB
open PySem PySem.Spec PyProof.Rows L2
def dStrs (ws : List Str) : PyData := .list (ws.map .str)
def dInts (ns : List Int) : PyData := .list (ns.map .int)
def dStrss (wss : List (List Str)) : PyData := .list (wss.map dStrs)
section
variable {K : PySem.W.Frag} {H H' : Hp}
theorem dpAll_strs : ∀ ws : List Str, DpAll K H (ws.map V.str) (ws.map .str)
  | [] => .nil
  | w :: r => .cons (.str w) (dpAll_strs r)
theorem dp_strs {a : Addr} {ws : List Str} (h : SqL K H a (ws.map V.str)) : Dp K H (.ref a) (dStrs ws) := .lst h (dpAll_strs ws)
theorem dpAll_ints : ∀ ns : List Int, DpAll K H (ns.map V.int) (ns.map .int)
  | [] => .nil
  | n :: r => .cons (.int n) (dpAll_ints r)
theorem dp_ints {a : Addr} {ns : List Int} (h : SqL K H a (ns.map V.int)) : Dp K H (.ref a) (dInts ns) := .lst h (dpAll_ints ns)
/-- a list of texts stands at v, to be changed -/
def LL (H : Hp) (v : V) (ws : List Str) : Prop := ∃ a, v = .ref a ∧ H a = some (.lst (ws.map V.str))
theorem LL.kp {v : V} {ws : List Str} (h : LL H v ws) (k : Kp [] H H') : LL H' v ws := by
  obtain ⟨a, e, h⟩ := h
  exact ⟨a, e, k.same _ _ h⟩
theorem LL.all (k : Kp [] H H') : ∀ {vs : List V} {wss : List (List Str)}, Paired (LL H) vs wss → Paired (LL H') vs wss
  | _, _, .nil => .nil
  | _, _, .cons h t => .cons (h.kp k) (LL.all k t)
/-- .. where another thing is changed -/
theorem LL.over {D : Addr} {o : HO} (k : Kp [] H H') : ∀ {vs : List V} {wss : List (List Str)}, Paired (LL H) vs wss → (∀ u ∈ vs, u ≠ .ref D) → Paired (LL (upd H' D o)) vs wss
  | _, _, .nil, _ => .nil
  | _, _, .cons h t, n => .cons (by
      obtain ⟨a, rfl, h⟩ := h
      exact ⟨a, rfl, oth_upd (fun e => n _ (List.mem_cons_self ..) (by rw [e])) (k.same _ _ h)⟩) (LL.over k t fun u hu => n u (List.mem_cons_of_mem _ hu))
theorem LL.ne {D : Addr} (nD : H D = none) : ∀ {vs : List V} {wss : List (List Str)}, Paired (LL H) vs wss → ∀ u ∈ vs, u ≠ .ref D
  | _, _, .nil, _, hu, _ => by simp at hu
  | _, _, .cons h t, u, hu, e => by
    rcases List.mem_cons.mp hu with q | q
    · obtain ⟨a, rfl, h⟩ := h
      rw [q] at e
      cases e
      rw [nD] at h
      exact nomatch h
    · exact LL.ne nD t u q e
theorem dpAll_strss : ∀ {vs : List V} {wss : List (List Str)}, Paired (LL H) vs wss → DpAll K H vs (wss.map dStrs)
  | _, _, .nil => .nil
  | _, _, .cons h t => .cons (by obtain ⟨a, rfl, h⟩ := h; exact dp_strs (sqL_of h)) (dpAll_strss t)
theorem dp_strss {a : Addr} {vs : List V} {wss : List (List Str)} (h : SqL K H a vs) (p : Paired (LL H) vs wss) : Dp K H (.ref a) (dStrss wss) := .lst h (dpAll_strss p)
end
theorem paired_len {α β : Type} {R : α → β → Prop} : ∀ {xs : List α} {ys : List β}, Paired R xs ys → xs.length = ys.length
  | _, _, .nil => rfl
  | _, _, .cons _ t => congrArg (· + 1) (paired_len t)
theorem paired_app {α β : Type} {R : α → β → Prop} : ∀ {xs xs' : List α} {ys ys' : List β}, Paired R xs ys → Paired R xs' ys' → Paired R (xs ++ xs') (ys ++ ys')
  | _, _, _, _, .nil, s => s
  | _, _, _, _, .cons r t, s => .cons r (paired_app t s)
/-! ### what repr asks -/
theorem showAll_map {α : Type} {f : α → PyData} : ∀ {l : List α}, (∀ x ∈ l, (f x).showable = true) → PyData.showableAll (l.map f) = true
  | [], _ => by simp only [List.map_nil, PyData.showableAll]
  | a :: r, h => by
    simp only [List.map_cons, PyData.showableAll]
    rw [h a (List.mem_cons_self ..), showAll_map fun x hx => h x (List.mem_cons_of_mem _ hx)]
    rfl
theorem depthAll_map {α : Type} {f : α → PyData} {n : Nat} : ∀ {l : List α}, (∀ x ∈ l, (f x).depth ≤ n) → PyData.depthAll (l.map f) ≤ n
  | [], _ => by simp only [List.map_nil, PyData.depthAll]; exact Nat.zero_le _
  | a :: r, h => by
    simp only [List.map_cons, PyData.depthAll]
    exact Nat.max_le.mpr ⟨h a (List.mem_cons_self ..), depthAll_map fun x hx => h x (List.mem_cons_of_mem _ hx)⟩
theorem shownAll_map {α : Type} {f : α → PyData} : ∀ l : List α, PyData.shownAll (l.map f) = l.map fun x => (f x).shown
  | [] => by simp only [List.map_nil, PyData.shownAll]
  | a :: r => by simp only [List.map_cons, PyData.shownAll, shownAll_map r]
theorem sum_le {α : Type} {g : α → Nat} {B : Nat} : ∀ {l : List α}, (∀ x ∈ l, g x ≤ B) → (l.map g).sum ≤ l.length * B
  | [], _ => by simp
  | a :: r, h => by
    rw [List.map_cons, List.sum_cons, List.length_cons, Nat.succ_mul]
    have h1 := h a (List.mem_cons_self ..)
    have h2 := sum_le (l := r) fun x hx => h x (List.mem_cons_of_mem _ hx)
    omega
theorem shown_list_le {α : Type} {f : α → PyData} {B : Nat} {l : List α} (h : ∀ x ∈ l, (f x).shown.length ≤ B) : (PyData.list (l.map f)).shown.length ≤ l.length * B + 2 * l.length + 3 := by
  have e : (PyData.list (l.map f)).shown = listText (l.map fun x => (f x).shown) := by
    simp only [PyData.shown]
    rw [shownAll_map]
  rw [e]
  have h1 := listText_len_le (l.map fun x => (f x).shown)
  rw [List.map_map, List.length_map] at h1
  have h2 : (l.map ((fun x : Str => x.length) ∘ fun x => (f x).shown)).sum ≤ l.length * B := sum_le fun x hx => h x hx
  omega
theorem shown_nm {z : Str} (h : Nm z) : (PyData.str z).shown.length ≤ 82 := by
  simp only [PyData.shown]
  have e := StrLaws.reprText_len z fun c hc => by
    have := (h.2.2 c hc).2
    exact Nat.lt_of_le_of_lt this (by decide)
  have h8 : z.length ≤ 8 := by
    have := h.2.1
    rw [Array.length_toList] at this
    exact this
  omega
theorem shown_int_le {i : Int} (h : i.natAbs < 10 ^ 12) : (PyData.int i).shown.length ≤ 13 := PyData.shown_int_le h
/-! lists of names -/
theorem strs_show (ws : List Str) : (dStrs ws).showable = true := by
  simp only [dStrs, PyData.showable]
  exact showAll_map fun x _ => by simp only [PyData.showable]
theorem strs_depth (ws : List Str) : (dStrs ws).depth ≤ 1 := by
  simp only [dStrs, PyData.depth]
  have := depthAll_map (f := PyData.str) (n := 0) (l := ws) fun x _ => by simp only [PyData.depth]; exact Nat.le_refl _
  omega
theorem strs_len {ws : List Str} (h : ∀ z ∈ ws, Nm z) : (dStrs ws).shown.length ≤ ws.length * 84 + 3 := by
  have := shown_list_le (f := PyData.str) (B := 82) (l := ws) fun x hx => shown_nm (h x hx)
  unfold dStrs
  omega
theorem strss_show (wss : List (List Str)) : (dStrss wss).showable = true := by
  simp only [dStrss, PyData.showable]
  exact showAll_map fun x _ => strs_show x
theorem strss_depth (wss : List (List Str)) : (dStrss wss).depth ≤ 2 := by
  simp only [dStrss, PyData.depth]
  have := depthAll_map (f := dStrs) (n := 1) (l := wss) fun x _ => strs_depth x
  omega
theorem strss_len {wss : List (List Str)} {n : Nat} (h : ∀ ws ∈ wss, ws.length ≤ n ∧ ∀ z ∈ ws, Nm z) : (dStrss wss).shown.length ≤ wss.length * (n * 84 + 5) + 3 := by
  have := shown_list_le (f := dStrs) (B := n * 84 + 3) (l := wss) fun x hx => by
    have h1 := strs_len (h x hx).2
    have h2 : x.length * 84 ≤ n * 84 := Nat.mul_le_mul_right _ (h x hx).1
    omega
  unfold dStrss
  have e : wss.length * (n * 84 + 5) = wss.length * (n * 84 + 3) + 2 * wss.length := by
    rw [show n * 84 + 5 = (n * 84 + 3) + 2 from rfl, Nat.mul_add]
    omega
  omega
theorem ints_show {ns : List Int} (h : ∀ n ∈ ns, n.natAbs < 10 ^ 12) : (dInts ns).showable = true := by
  simp only [dInts, PyData.showable]
  refine showAll_map fun x hx => ?_
  simp only [PyData.showable, decide_eq_true_eq]
  exact Nat.lt_trans (PySem.Flt.log2_lt_of (k := 40) (by decide) (Nat.lt_trans (h x hx) (by decide))) (by decide)
theorem ints_depth (ns : List Int) : (dInts ns).depth ≤ 1 := by
  simp only [dInts, PyData.depth]
  have := depthAll_map (f := PyData.int) (n := 0) (l := ns) fun x _ => by simp only [PyData.depth]; exact Nat.le_refl _
  omega
theorem ints_len {ns : List Int} (h : ∀ n ∈ ns, n.natAbs < 10 ^ 12) : (dInts ns).shown.length ≤ ns.length * 15 + 3 := by
  have := shown_list_le (f := PyData.int) (B := 13) (l := ns) fun x hx => shown_int_le (h x hx)
  unfold dInts
  omega
theorem st_repr {K : PySem.W.Frag} {H : Hp} {Q : VK} {v : V} {d : PyData} (hd : Dp K H v d) (hs : d.showable = true) (hp : d.depth ≤ 50) (hl : d.shown.length ≤ sizeLine) (h : Q (.str d.shown) H) : rReprD K [v] H Q := ⟨v, d, rfl, hd, hs, hp, hl, h⟩
end TB
/-! sorted(t, key=lambda x: (int, int)), t a tuple of references. -/
namespace TB
open PySem PySem.Spec PyProof.Rows L2 LamX NdefX
/-! ### a lambda with parameters is called -/
section
variable {P : Program} {w : World} {K : PySem.W.Frag} {mg : Str → Option Value} {base : Heap} {N ps fr : List Str} {F : NF} {f : Addr} {k : Nat}
theorem lam_call {A : Around} {outer : List Env} {s : Shared} {H : Hp} {us : List Value} {vs : List V} {ws : List (Option V)} {Q : VK} {pm ctv : Value} {body : Expr} {t : TE} (S : NScope N ps fr F.scope)
    (hb : bindArgs (PySem.W.kla_fn "<lambda>" F.qual F.params body F.scope F.cl pm (.ref F.c) ctv) ⟨us, []⟩ = pure (ps.zip us)) (hr : Room (k + 1) A) (e0 : Env0 P w K mg base A outer s H)
    (hf : s.heap.get? f = some (PySem.W.kla_obj "<lambda>" F.qual F.params body F.scope F.cl pm F.c ctv)) (hc : H F.c = some (CodeO F.c F.qual)) (C : CellsAt F.cl fr ws s.heap H) (r : Vals vs us) (hl : vs.length = ps.length)
    (hbody : PE (ncx CX0 P w K mg base N F f A outer s H E0) body t) (ht : t (startF N vs ws) H Q) : codeAny (model P w) A (.call (.ref f) ⟨us, []⟩) (CR CX0 outer P w H s Q E0) s := by
  have lim : s.heap.NoLimit := e0.mod.nolimit.keeps (fun b o e => And.left (e0.bs b o e))
  refine PySem.W.kla_callFunE hr.depth hf rfl S.co S.gen rfl (codeO_at e0.hok hc) ?_
  rw [hb]
  refine wpAny_pure (wpAny_newFunctionEnv S.nocell ?_ ?_ S.kind)
  · rintro ⟨n, v⟩ hy
    exact S.par n (List.of_mem_zip hy).1
  intro h₁ hns hsb
  refine ⟨lim.fresh _ hsb, ?_⟩
  have kp : ∀ b o, s.heap.get? b = some o → h₁.get? b = some o := by
    intro b o e
    exact hsb.extBut b o (Nat.ne_of_lt (Heap.lt_size e)) (Heap.get?_push_of_some _ e)
  have I := inv_startN (f := f) (CX := CX0) (E := E0) (tk := s.toks + (ps.zip us).length) S hr.hd e0 hl r C hns kp
  show codeAny _ _ (.expr body (envF F f s.heap.objs.size)) _ _
  refine PySem.W.kla_codeExpr (wpAny_mono (hbody.run [] _ _ H Q I ht) ?_ (fun _ _ z => z))
  rintro v s' ⟨u, H', J, rv, q⟩
  exact ⟨u, H', J.os, J.bare, J.base, J.hok, rv, q⟩
end
/-! ### the end of the sort -/
open SrtO Srt in
section
variable {prog : Program} {w : World} {A : Around} {E : Value → Shared → Prop} {s : Shared}
theorem pair_fun {h : Heap} {v : Value} {i j i' j' : Int} (a : IsPair h v i j) (b : IsPair h v i' j') : (i, j) = (i', j') := by
  obtain ⟨p, o, t, u, n, e, ho, hc, hd⟩ := a
  obtain ⟨p', o', t', u', n', e', ho', hc', hd'⟩ := b
  rw [e] at e'
  cases e'
  rw [ho] at ho'
  cases ho'
  rw [hd] at hd'
  cases hd'
  rfl
open Classical in
/-- the two numbers of a pair in h -/
noncomputable def kkOf (h : Heap) (v : Value) : Int × Int := if c : ∃ z : Int × Int, IsPair h v z.1 z.2 then c.choose else (0, 0)
theorem kk_eq {h : Heap} {v : Value} {i j : Int} (a : IsPair h v i j) : kkOf h v = (i, j) := by
  have c : ∃ z : Int × Int, IsPair h v z.1 z.2 := ⟨(i, j), a⟩
  unfold kkOf
  rw [dif_pos c]
  exact pair_fun c.choose_spec a
theorem endT {D kS e1 e : Nat} {vs : List Value} {keys : Array Value} {R : PySem.Fin → Shared → Prop} {kk : Value → Int × Int} (hD : s.heap.get? D = some (seqObj "list" #[] e1)) (hS : s.heap.get? kS = some (seqObj "list" keys e)) (hne : kS ≠ D)
    (hz : keys.size = vs.length) (hsz : vs.length ≤ sizeLine) (hp : ∀ v ∈ keys.toList, IsPair s.heap v (kk v).1 (kk v).2)
    (h : ∀ out : Array Keyed, Srtd (lt2 fun v u => lexB (kk v) (kk u)) out.toList → out.toList.Perm (keys.toList.zip vs) →
      R (.done (.ret .none)) { s with heap := (s.heap.update kS (Obj.mapSeq fun _ => #[])).update D (Obj.mapSeq fun _ => out.map (·.2)) }) :
    wpAny (model prog w) A (ksk_end D false vs.toArray e1 (.ref kS) keys) R E s := by
  have hzip : (keys.zip vs.toArray).toList = keys.toList.zip vs := ksk_zip keys vs
  have hD1 : (s.heap.update kS (Obj.mapSeq fun _ => (#[] : Array Value))).get? D = some (seqObj "list" #[] e1) := by
    rw [Heap.get?_update_ne _ _ _ _ (fun z => hne z.symm)]
    exact hD
  have tail : ∀ st : SortSt, Srtd (lt2 fun v u => lexB (kk v) (kk u)) (arrOf st).toList → (arrOf st).toList.Perm (keys.toList.zip vs) → failedOf st = none → wpAny (model prog w) A (ksk_tail D false e1 (.ref kS) st) R E s := by
    intro st h1 h2 h3
    have hl : ((arrOf st).map (·.2)).size ≤ sizeLine + 1 := by
      rw [Array.size_map]
      have q := h2.length_eq
      rw [Array.length_toList, List.length_zip, Array.length_toList, hz, Nat.min_self] at q
      omega
    unfold ksk_tail
    refine wpAny_bind (listUpdate_at hS rfl ?_ (by rw [hz]; exact hsz) (Nat.zero_le _))
    refine wpAny_bind (wpAny_letGo ?_)
    refine wpAny_bind (seqEpoch_at hD1 rfl ?_)
    refine wpAny_bind (listUpdate_at hD1 rfl ?_ (Nat.zero_le _) hl)
    rw [h3]
    simp only [bne_self_eq_false, Bool.false_eq_true, if_false]
    exact wpAny_pure (h (arrOf st) h1 h2)
  unfold ksk_end
  dsimp only
  rw [if_neg (by decide)]
  by_cases h2 : vs.toArray.size < 2
  · rw [if_pos h2, if_pos h2]
    refine wpAny_bind (wpAny_pure ?_)
    rw [StateT.run_pure]
    refine wpAny_bind (wpAny_pure ?_)
    have hl2 : (keys.toList.zip vs).length < 2 := by
      rw [List.length_zip, Array.length_toList, hz, Nat.min_self]
      rw [List.size_toArray] at h2
      exact h2
    refine tail (SortSt.mk' general' (keys.zip vs.toArray) #[] 7 none) ?_ ?_ rfl
    · show Srtd (lt2 fun v u => lexB (kk v) (kk u)) (keys.zip vs.toArray).toList
      rw [hzip]
      generalize keys.toList.zip vs = l at hl2
      match l, hl2 with
      | [], _ => exact List.Pairwise.nil
      | [x], _ => exact srtd_one x
      | _ :: _ :: r, q => exact absurd q (by rw [List.length_cons, List.length_cons]; omega)
    · show (keys.zip vs.toArray).toList.Perm _
      rw [hzip]
  · rw [if_neg h2, if_neg h2]
    rw [List.size_toArray] at h2
    have hO : Swo (fun v u => lexB (kk v) (kk u)) := swo_lex kk
    obtain ⟨κ, hk, hC⟩ := pairs_sortableO (prog := prog) (w := w) (A := A) (s := s) (a := D) (vs := keys.toList) (k := kk) (by rw [Array.length_toList]; omega) hp
      (fun o q z => by
        rw [hD] at q
        cases q
        injection z with z3
        exact absurd z3 (by decide)) s.heap (fun _ _ _ q => q)
    rw [Array.toArray_toList] at hk
    refine wpAny_bind (hk _ _ ?_)
    refine wpAny_bind (wpAny_mono (wpS_sortO (st0 := SortSt.mk' κ (keys.zip vs.toArray) #[] 7 none)
      (Q := fun _ st' => Srtd (lt2 fun v u => lexB (kk v) (kk u)) (arrOf st').toList ∧ (arrOf st').toList.Perm (keys.toList.zip vs) ∧ failedOf st' = none) (swo2 hO) hC rfl ?_ rfl rfl ?_) ?_ (fun _ _ z => z))
    · intro p hm
      have hm2 : p ∈ (keys.zip vs.toArray).toList := hm
      rw [hzip] at hm2
      exact (List.of_mem_zip (a := p.1) (b := p.2) hm2).1
    · intro st' a1 a2 a3
      have a4 : Stb (lt2 fun v u => lexB (kk v) (kk u)) (arrOf st').toList (keys.zip vs.toArray).toList := a2
      rw [hzip] at a4
      exact ⟨a1, a4.perm, a3⟩
    · rintro ⟨⟨⟩, st'⟩ s' ⟨rfl, h1, hp2, hf⟩
      exact tail st' h1 hp2 hf
end
end TB
/-! sorted(t, key=lambda ..) over the layer. -/
namespace TB
open PySem PySem.Spec PyProof.Rows L2 LamX NdefX SrtO Srt
/-- just this object lies at D -/
def AtO (D : Addr) (o : Obj) : HO := .ext fun h => h.get? D = some o
theorem atO_ok {P : Program} {w : World} {H : Hp} {h : Heap} {D : Addr} {o : Obj} (e : h.get? D = some o) : ObjOk P w H h D (AtO D o) := ⟨e, ⟨o, e⟩, fun _ _ p k => k _ p⟩
theorem srt_pairs {kk : Value → Int × Int} {kf : V → Int × Int} {out : List Keyed} (h : Srtd (lt2 fun v u => lexB (kk v) (kk u)) out) (he : ∀ p ∈ out, kk p.1 = kf (backV p.2)) : Srtd (ltP kf) ((out.map (·.2)).map backV) := by
  rw [List.map_map]
  refine List.pairwise_map.mpr (List.Pairwise.imp_of_mem ?_ h)
  intro p q hp hq z
  have z2 : lexB (kk q.1) (kk p.1) = false := z
  rw [he p hp, he q hq] at z2
  exact z2
section
variable {X : Cx} {pins : List (Addr × Obj)} {σ : L2.St} {H : Hp} {s : Shared} {N fr : List Str} {x0 : Str} {F : NF} {f a : Addr} {js : List Nat} {k : Nat} {xs : List V} {kf : V → Int × Int} {Q : VK} {pm ctv : Value} {body : Expr}
/-- what stands when j keys are made -/
def KeysAt (X : Cx) (pins : List (Addr × Obj)) (σ : L2.St) (H : Hp) (D kS f : Addr) (oD oF : Obj) (xs : List V) (kf : V → Int × Int) (j : Nat) (s : Shared) : Prop :=
  ∃ (Hi : Hp) (ks : List V), Inv X pins σ Hi s ∧ Same H Hi ∧ (NoT H → NoT Hi) ∧ Hi D = some (AtO D oD) ∧ Hi kS = some (.lst ks) ∧ Hi f = none ∧ s.heap.get? f = some oF ∧ ks.length = j ∧
    ∀ (i : Nat) (z : V), ks[i]? = some z → ∃ (t : Addr) (y : V), z = .ref t ∧ xs[i]? = some y ∧ Hi t = some (.tup [.int (kf y).1, .int (kf y).2])
theorem sortLam_run (I : Inv X pins σ H s) (ht : SqT X.K H a xs) (hx : ∀ x ∈ xs, ∃ t, x = V.ref t)
    (hf : s.heap.get? f = some (PySem.W.kla_obj "<lambda>" F.qual F.params body F.scope F.cl pm F.c ctv)) (hfn : H f = none) (hfr : f ∉ frs X.stack) (hc : H F.c = some (CodeO F.c F.qual)) (cp : Caps X F.cl fr js) (S : NScope N [x0] fr F.scope)
    (hb : ∀ u : Value, bindArgs (PySem.W.kla_fn "<lambda>" F.qual F.params body F.scope F.cl pm (.ref F.c) ctv) ⟨[u], []⟩ = pure ([x0].zip [u])) (hr : Room (k + 3) X.A)
    (hkey : ∀ x ∈ xs, ∀ (A : Around) (outer : List Env) (s' : Shared) (H' : Hp), Room k (A.deeper (envF F f s'.heap.objs.size)) → Same H H' →
      ∃ t, PE (ncx CX0 X.prog X.w X.K X.mg X.base N F f A outer s' H' E0) body t ∧ ∀ Q : VK, (∀ p, H' p = none → Q (.ref p) (upd H' p (.tup [.int (kf x).1, .int (kf x).2]))) → t (startF N [x] (js.map (slotAt σ))) H' Q)
    (q : ∀ (ys : List V) (D : Addr) (H' : Hp), ys.Perm xs → Srtd (ltP kf) ys → Same H H' → (NoT H → NoT H') → H D = none → H' D = some (.lst ys) → Q (.ref D) H') :
    wpAny (model X.prog X.w) X.A (call (.builtin "sorted") [.ref a] [(Str.ofString "key", .ref f)]) (EP X pins σ Q) X.xe s := by
  obtain ⟨its, rv, ⟨o, ho, hoc, n, hod⟩, hz⟩ := I.tuple ht
  have hzl : its.length ≤ sizeLine := by
    rw [← rv.length]
    exact hz
  refine call_function_entry_kw kind_sorted plain_sorted entry_sorted (ksk_s1 _ _) ?_
  unfold Builtin.«sorted»
  refine wpAny_bind (m := checkCount "sorted" 1 1 _) (wpAny_pure ?_)
  refine wpAny_bind (wpAny_collect_seq a (Or.inr rfl) ho hoc hod (fun h1 kp1 => ?_) (by rw [List.size_toArray]; exact hzl))
  rw [List.toList_toArray]
  refine wpAny_bind (wpAny_newList ?_ hzl)
  have hoL : (h1.push (seqObj "list" its.toArray 0)).get? h1.objs.size = some (seqObj "list" its.toArray 0) := Heap.get?_push_size _ rfl
  obtain ⟨e1, ho3⟩ : ∃ e1, ((h1.push (seqObj "list" its.toArray 0)).update h1.objs.size (Obj.mapSeq fun _ => (#[] : Array Value))).get? h1.objs.size = some (seqObj "list" #[] e1) := ⟨_, get?_update_seq hoL (fun _ => #[])⟩
  have hs3 : ((h1.push (seqObj "list" its.toArray 0)).update h1.objs.size (Obj.mapSeq fun _ => (#[] : Array Value))).objs.size = h1.objs.size + 1 := by
    rw [Heap.size_update, size_push']
  have kp3 : ∀ b u, h1.get? b = some u → ((h1.push (seqObj "list" its.toArray 0)).update h1.objs.size (Obj.mapSeq fun _ => (#[] : Array Value))).get? b = some u := by
    intro b u e
    rw [Heap.get?_update_ne _ _ _ _ (Nat.ne_of_lt (Heap.lt_size e))]
    exact Heap.get?_push_of_some _ e
  refine wpAny_bind (wpAny_holding (wpAny_call_entry_kw slot_list_sort ⟨_, hoL, rfl⟩ entry_list_sort ?body (ksk_l1 _ _)))
  show wpAny (model X.prog X.w) X.A.in1.in1 (Builtin.«list.sort» ⟨[.ref h1.objs.size], [(Str.ofString "key", .ref f)]⟩) _ _ { s with heap := h1.push (seqObj "list" its.toArray 0) }
  rw [ksk_t1]
  unfold ksk_tree
  refine wpAny_bind (listItems_at hoL rfl ?_)
  refine wpAny_bind (listUpdate_at hoL rfl ?_ (by rw [List.size_toArray]; exact hzl) (Nat.zero_le _))
  refine wpAny_bind (seqEpoch_at ho3 rfl ?_)
  refine wpAny_bind (wpAny_newTuple ?_ (by show its.toArray.toList.length ≤ _; rw [List.toList_toArray]; exact hzl))
  refine wpAny_bind (wpAny_newList ?_ (Nat.zero_le _))
  refine wpAny_holding ?_
  generalize hh3 : (h1.push (seqObj "list" its.toArray 0)).update h1.objs.size (Obj.mapSeq fun _ => (#[] : Array Value)) = h3 at ho3 hs3 kp3
  show wpAny (model X.prog X.w) X.A.in1.in1 (ksk_rest h1.objs.size (.ref f) false its.toArray e1 (.ref (h3.push { cls := .type "tuple", data := .seq its.toArray.toList.toArray }).objs.size)) _ _ { s with heap := (h3.push { cls := .type "tuple", data := .seq its.toArray.toList.toArray }).push { cls := .type "list", data := .seq ([] : List Value).toArray } }
  generalize hh4 : h3.push { cls := .type "tuple", data := .seq its.toArray.toList.toArray } = h4
  have hs4 : h4.objs.size = h1.objs.size + 2 := by
    rw [← hh4, size_push', hs3]
  have kp4 : ∀ b u, h3.get? b = some u → h4.get? b = some u := by
    intro b u e
    rw [← hh4]
    exact Heap.get?_push_of_some _ e
  have kp5 : ∀ b u, h4.get? b = some u → (h4.push { cls := .type "list", data := .seq ([] : List Value).toArray }).get? b = some u := fun b u e => Heap.get?_push_of_some _ e
  -- the state at the first key
  have I0 : Inv X pins σ H { s with heap := h1, toks := s.toks } := I.kept kp1
  have I1 : Inv X pins σ (upd H h1.objs.size (AtO h1.objs.size (seqObj "list" #[] e1))) { s with heap := h4, toks := s.toks } := I0.laid (a := h1.objs.size) (fun b u e => kp4 b u (kp3 b u e)) (Nat.le_refl _) (atO_ok (kp4 _ _ ho3))
  have nD : H h1.objs.size = none := I0.hok.fresh (Nat.le_refl _)
  have nS1 : upd H h1.objs.size (AtO h1.objs.size (seqObj "list" #[] e1)) h4.objs.size = none := I1.hok.fresh (Nat.le_refl _)
  have I2 : Inv X pins σ (upd (upd H h1.objs.size (AtO h1.objs.size (seqObj "list" #[] e1))) h4.objs.size (.lst [])) { s with heap := h4.push { cls := .type "list", data := .seq ([] : List Value).toArray }, toks := s.toks } :=
    I1.laid (a := h4.objs.size) kp5 (Nat.le_refl _) ⟨Nat.zero_le _, [], 0, .nil, Heap.get?_push_size _ rfl⟩
  have nS : H h4.objs.size = none := (nil_upd nS1).2
  have neSD : h4.objs.size ≠ h1.objs.size := by omega
  have hfl : f < h1.objs.size := Heap.lt_size (kp1 f _ hf)
  have start : KeysAt X pins σ H h1.objs.size h4.objs.size f (seqObj "list" #[] e1) (PySem.W.kla_obj "<lambda>" F.qual F.params body F.scope F.cl pm F.c ctv) xs kf 0 { s with heap := h4.push { cls := .type "list", data := .seq ([] : List Value).toArray } } := by
    refine ⟨_, [], I2, ?_, ?_, ?_, upd_same, ?_, ?_, rfl, ?_⟩
    · intro b u e
      exact old_upd nS1 (old_upd nD e)
    · intro nt
      exact NoT.upd (o := .lst []) (NoT.upd (o := AtO h1.objs.size (seqObj "list" #[] e1)) nt trivial) trivial
    · rw [upd_ne neSD.symm, upd_same]
    · rw [upd_ne (Nat.ne_of_lt (Nat.lt_of_lt_of_le hfl (by rw [hs4]; exact Nat.le_add_right _ _))), upd_ne (Nat.ne_of_lt hfl)]
      exact hfn
    · exact kp5 _ _ (kp4 _ _ (kp3 _ _ (kp1 _ _ hf)))
    · intro i z e
      exact nomatch (show (none : Option V) = some z from e)
  have hm : ∀ (s' : Shared), KeysAt X pins σ H h1.objs.size h4.objs.size f (seqObj "list" #[] e1) (PySem.W.kla_obj "<lambda>" F.qual F.params body F.scope F.cl pm F.c ctv) xs kf its.length s' → ∀ (kA : Array Value) (e : Nat), s'.heap.get? h4.objs.size = some (seqObj "list" kA e) →
      wpAny (model X.prog X.w) X.A.in1.in1 (ksk_end h1.objs.size false its.toArray e1 (.ref h4.objs.size) kA) (fun r s2 => ∃ v, r = .done (.ret v) ∧ EP X pins σ Q (.ref h1.objs.size) s2) X.xe s' := by
    rintro s' ⟨Hi, ks, J, sm, nt, hD, hS, hf0, hf1, hkl, hks⟩ kA e hk
    obtain ⟨zk, iks, n2, rk, ek⟩ := J.hok _ _ hS
    have eA : kA = iks.toArray := by
      rw [hk] at ek
      cases ek
      rfl
    have hDo : s'.heap.get? h1.objs.size = some (seqObj "list" #[] e1) := (J.hok _ _ hD).1
    have szk : kA.size = its.length := by
      rw [eA, List.size_toArray, ← rk.length, hkl]
    have isP : ∀ (i : Nat) (u : Value), kA.toList[i]? = some u → ∃ y, xs[i]? = some y ∧ IsPair s'.heap u (kf y).1 (kf y).2 := by
      intro i u hu
      rw [eA, List.toList_toArray] at hu
      have hi : i < ks.length := by
        rw [rk.length]
        exact (List.getElem?_eq_some_iff.mp hu).1
      obtain ⟨t, y, ez, hy, hty⟩ := hks i _ (List.getElem?_eq_getElem hi)
      obtain ⟨u2, hu2, ru⟩ := rk.get (List.getElem?_eq_getElem hi)
      rw [hu] at hu2
      cases hu2
      rw [ez] at ru
      obtain rfl : u = Value.ref t := ru
      obtain ⟨_, its2, r2, o2, g1, g2, n3, g3⟩ := J.hok _ _ hty
      obtain ⟨v1, v2, rfl, ri, rj⟩ := vals2 r2
      obtain ⟨t1, rfl⟩ := ri
      obtain ⟨t2, rfl⟩ := rj
      exact ⟨y, hy, t, o2, t1, t2, n3, rfl, g1, g2, g3⟩
    refine endT (kk := kkOf s'.heap) hDo hk neSD szk hzl ?_ ?_
    · intro v hv
      obtain ⟨i, hi⟩ := List.mem_iff_getElem?.mp hv
      obtain ⟨y, _, hp⟩ := isP i v hi
      rw [kk_eq hp]
      exact hp
    · intro out h2 h3p
      have h4p : ∀ p ∈ out.toList, kkOf s'.heap p.1 = kf (backV p.2) ∧ ∃ t, p.2 = Value.ref t := by
        intro p hp
        obtain ⟨i, hi⟩ := List.mem_iff_getElem?.mp (h3p.mem_iff.mp hp)
        rw [List.getElem?_zip_eq_some] at hi
        obtain ⟨y, hy, hpp⟩ := isP i _ hi.1
        obtain ⟨u, hu, ru⟩ := rv.get hy
        rw [hi.2] at hu
        cases hu
        obtain ⟨t, et⟩ := hx y (List.mem_of_getElem? hy)
        rw [et] at ru
        have ru2 : p.2 = Value.ref t := ru
        rw [kk_eq hpp, ru2, et]
        exact ⟨rfl, t, rfl⟩
      have hpm : (out.toList.map (·.2)).Perm its := by
        have z := h3p.map (fun p : Keyed => p.2)
        rw [List.map_snd_zip (Nat.le_of_eq (szk.symm.trans Array.length_toList.symm))] at z
        exact z
      have hrefs : ∀ u ∈ out.toList.map (·.2), ∃ t, u = Value.ref t := by
        intro u hu
        obtain ⟨p, hp, rfl⟩ := List.mem_map.mp hu
        exact (h4p p hp).2
      obtain ⟨e2, _⟩ := refs_back rv hx
      have hpx : ((out.toList.map (·.2)).map backV).Perm xs := by
        rw [e2]
        exact hpm.map backV
      have hsr := srt_pairs h2 (fun p hp => (h4p p hp).1)
      have hk1 : (s'.heap.update h4.objs.size (Obj.mapSeq fun _ => (#[] : Array Value))).get? h1.objs.size = some (seqObj "list" #[] e1) := by
        rw [Heap.get?_update_ne _ _ _ _ neSD.symm]
        exact hDo
      have J1 : Inv X pins σ (upd Hi h4.objs.size (.lst [])) { s' with heap := s'.heap.update h4.objs.size (Obj.mapSeq fun _ => (#[] : Array Value)), toks := s'.toks } := by
        refine J.write (e := h4.objs.size) (by rw [hS]; trivial) (Or.inl rfl) ?_ ⟨_, get?_update_seq hk fun _ => #[]⟩ ⟨Nat.zero_le _, [], _, .nil, get?_update_seq hk fun _ => #[]⟩
        intro b u hbn hu
        rw [Heap.get?_update_ne _ _ _ _ hbn]
        exact hu
      have hD1 : upd Hi h4.objs.size (.lst []) h1.objs.size = some (AtO h1.objs.size (seqObj "list" #[] e1)) := by
        rw [upd_ne neSD.symm]
        exact hD
      have eo : out.map (fun p : Keyed => p.2) = (out.toList.map (fun p : Keyed => p.2)).toArray := by
        apply Array.ext'
        rw [Array.toList_map]
      obtain ⟨c2, hc2⟩ : ∃ c2, ((s'.heap.update h4.objs.size (Obj.mapSeq fun _ => (#[] : Array Value))).update h1.objs.size (Obj.mapSeq fun _ => out.map (·.2))).get? h1.objs.size = some (seqObj "list" (out.map (·.2)) c2) := ⟨_, get?_update_seq hk1 fun _ => out.map (·.2)⟩
      have J2 : Inv X pins σ (upd (upd Hi h4.objs.size (.lst [])) h1.objs.size (.lst ((out.toList.map (·.2)).map backV))) { s' with heap := (s'.heap.update h4.objs.size (Obj.mapSeq fun _ => (#[] : Array Value))).update h1.objs.size (Obj.mapSeq fun _ => out.map (·.2)), toks := s'.toks } := by
        refine J1.write (e := h1.objs.size) (by rw [hD1]; trivial) (Or.inl rfl) ?_ ⟨_, hc2⟩ ⟨?_, out.toList.map (·.2), c2, vals_back hrefs, by rw [← eo]; exact hc2⟩
        · intro b u hbn hu
          rw [Heap.get?_update_ne _ _ _ _ hbn]
          exact hu
        · rw [hpx.length_eq]
          exact hz
      refine ⟨_, rfl, .ref h1.objs.size, _, J2, rfl, q _ _ _ hpx hsr ?_ ?_ nD upd_same⟩
      · intro b u e
        rw [upd_ne (ne_of_none e nD), upd_ne (ne_of_none e nS)]
        exact sm b u e
      · intro nt0
        exact NoT.upd (o := .lst ((out.toList.map (·.2)).map backV)) (NoT.upd (o := .lst []) (nt nt0) trivial) trivial
  refine wpAny_mono (Q := fun r s2 => ∃ v, r = .done (.ret v) ∧ EP X pins σ Q (.ref h1.objs.size) s2) ?_ ?_ (fun _ _ z => z)
  · unfold ksk_rest
    refine wpAny_bind (wpAny_rule ?_)
    rw [← Array.forIn_toList, List.toList_toArray]
    refine wpAny_bind (ksk_fold (KeysAt X pins σ H h1.objs.size h4.objs.size f (seqObj "list" #[] e1) (PySem.W.kla_obj "<lambda>" F.qual F.params body F.scope F.cl pm F.c ctv) xs kf) its 0 _ start ?_ ?_)
    · rintro j u s' hu ⟨Hi, ks, J, sm, nt, hD, hS, hf0, hf1, hkl, hks⟩
      rw [Nat.zero_add] at hkl
      have hj : j < xs.length := by
        rw [rv.length]
        exact (List.getElem?_eq_some_iff.mp hu).1
      obtain ⟨u2, hu2, ru⟩ := rv.get (List.getElem?_eq_getElem hj)
      rw [hu] at hu2
      cases hu2
      have hmx : xs[j] ∈ xs := List.getElem_mem hj
      have hrm : Room (k + 1) X.A.in1.in1 := Room.in1 (Room.in1 hr)
      obtain ⟨t, hpe, htq⟩ := hkey xs[j] hmx X.A.in1.in1 X.stack s' Hi (hrm.deeper _) sm
      have call1 := lam_call (P := X.prog) (w := X.w) (K := X.K) (mg := X.mg) (base := X.base) (A := X.A.in1.in1) (outer := X.stack) (vs := [xs[j]]) (us := [u]) (Q := fun v H'' => ∃ p, Hi p = none ∧ v = .ref p ∧ H'' = upd Hi p (.tup [.int (kf xs[j]).1, .int (kf xs[j]).2]))
        S (hb u) hrm (Env0.in1 (Env0.in1 J.env0)) hf1 (sm _ _ hc) (cells_of J cp) (.cons ru .nil) rfl hpe (htq _ (fun p np => ⟨p, np, rfl, rfl⟩))
      refine wpAny_bind (wpAny_attempt (wpAny_call (codeAny_mono call1 ?_)))
      rintro (er | (_ | _ | _ | v)) s2 hq
      · exact hq.elim
      · exact hq.elim
      · exact hq.elim
      · exact hq.elim
      have un : ∃ H2, Un (frs X.stack) [] Hi H2 s'.heap s2.heap := by
        obtain ⟨_, H2, _, _, un, _⟩ := hq
        exact ⟨H2, un⟩
      obtain ⟨H2', un⟩ := un
      have hf2 := un.keep f _ hf1 hf0 hfr (fun z => nomatch z)
      obtain ⟨vv, H2, J2, r2, p, np, rfl, rfl⟩ := J.after hq
      obtain rfl : v = Value.ref p := r2
      have neS : h4.objs.size ≠ p := ne_of_none hS np
      have neD : h1.objs.size ≠ p := ne_of_none hD np
      have hS2 : upd Hi p (.tup [.int (kf xs[j]).1, .int (kf xs[j]).2]) h4.objs.size = some (.lst ks) := by
        rw [upd_ne neS]
        exact hS
      have nef : f ≠ p := by
        intro z
        have z2 := un.free f _ hf1 hf0 (fun z => nomatch z)
        obtain ⟨oo, hoo⟩ : ∃ oo, s2.heap.get? p = some oo := by
          obtain ⟨_, _, _, o2, g1, _⟩ := J2.hok p _ upd_same
          exact ⟨o2, g1⟩
        obtain ⟨_, _, _, o2, g1, g2, _⟩ := J2.hok p _ upd_same
        rw [← z, hf2] at g1
        cases g1
        injection g2 with g3
        exact absurd g3 (by decide)
      obtain ⟨zk, iks, n2, rk, ek⟩ := J2.hok _ _ hS2
      have lk : iks.length = ks.length := rk.length.symm
      have hjl : j < sizeLine := Nat.lt_of_lt_of_le hj hz
      show wpAny _ _ (do Builtin.List.listUpdate (.ref h4.objs.size) (·.push (Value.ref p)); pure (ForInStep.yield PUnit.unit)) _ _ s2
      refine wpAny_bind (listUpdate_at ek rfl ?_ (by rw [List.size_toArray, lk]; omega) (by rw [Array.size_push, List.size_toArray, lk]; omega))
      refine wpAny_pure ⟨rfl, ?_⟩
      obtain ⟨e5, hnew⟩ : ∃ e5, (s2.heap.update h4.objs.size (Obj.mapSeq (·.push (Value.ref p)))).get? h4.objs.size = some (seqObj "list" (iks ++ [Value.ref p]).toArray e5) := by
        have z := get?_update_seq ek (·.push (Value.ref p))
        rw [List.push_toArray] at z
        exact ⟨_, z⟩
      refine ⟨upd (upd Hi p (.tup [.int (kf xs[j]).1, .int (kf xs[j]).2])) h4.objs.size (.lst (ks ++ [.ref p])), ks ++ [.ref p], ?_, ?_, ?_, ?_, upd_same, ?_, ?_, ?_, ?_⟩
      · refine J2.write (t' := s2.toks) (e := h4.objs.size) (by rw [hS2]; trivial) (Or.inl rfl) ?_ ⟨_, hnew⟩ ⟨?_, iks ++ [.ref p], e5, rk.append (show Vals [V.ref p] [Value.ref p] from .cons rfl .nil), hnew⟩
        · intro b w' hbn hw
          rw [Heap.get?_update_ne _ _ _ _ hbn]
          exact hw
        · rw [List.length_append]
          show ks.length + 1 ≤ _
          omega
      · intro b w' e
        rw [upd_ne (ne_of_none e nS)]
        exact old_upd np (sm b w' e)
      · intro nt0
        exact NoT.upd (o := .lst (ks ++ [.ref p])) (NoT.upd (o := .tup [.int (kf xs[j]).1, .int (kf xs[j]).2]) (nt nt0) trivial) trivial
      · rw [upd_ne neSD.symm, upd_ne neD]
        exact hD
      · rw [upd_ne (fun z => by rw [z, hS] at hf0; exact nomatch hf0), upd_ne nef]
        exact hf0
      · rw [Heap.get?_update_ne _ _ _ _ (fun z => by rw [z, hS] at hf0; exact nomatch hf0)]
        exact hf2
      · rw [List.length_append, hkl, Nat.zero_add]
        rfl
      · intro i z hz2
        by_cases hi : i < ks.length
        · rw [List.getElem?_append_left hi] at hz2
          obtain ⟨t2, y, ez, hy, hty⟩ := hks i z hz2
          refine ⟨t2, y, ez, hy, ?_⟩
          rw [upd_ne (ne_of hty hS (by simp)), upd_ne (ne_of_none hty np)]
          exact hty
        · rw [List.getElem?_append_right (by omega)] at hz2
          have hi2 : i - ks.length = 0 := by
            have z3 := (List.getElem?_eq_some_iff.mp hz2).1
            rw [List.length_singleton] at z3
            omega
          rw [hi2] at hz2
          have ez : z = .ref p := (Option.some.inj hz2).symm
          have hij : i = j := by omega
          subst hij
          refine ⟨p, xs[i], ez, List.getElem?_eq_getElem hj, ?_⟩
          rw [upd_ne (fun z3 => neS z3.symm), upd_same]
    · intro s' hA
      rw [Nat.zero_add] at hA
      obtain ⟨Hi, ks, J, sm, nt, hD, hS, hf0, hf1, hkl, hks⟩ := id hA
      obtain ⟨zk, iks, n2, rk, ek⟩ := J.hok _ _ hS
      refine wpAny_bind (listItems_at ek rfl ?_)
      exact hm s' hA _ _ ek
  · rintro r s2 ⟨v, rfl, ep⟩
    refine ⟨_, rfl, wpAny_pure ?_⟩
    exact ⟨_, rfl, ep⟩
end
end TB
/-! sorted(e, key=lambda ..) as an expression. -/
namespace TB
open PySem PySem.Spec PyProof.Rows L2 LamX NdefX SrtO Srt
/-- from H to H': but for the table at P all that was is there, the table is one still -/
structure Tg (P : Addr) (q : Str) (H H' : Hp) : Prop where
  kp : Kp [P] H H'
  tab : TabS H' P q
  nt : NoT H → NoT H'
def tSortLam (K : PySem.W.Frag) (P : Addr) (q : Str) (N : List Str) (js : List Nat) (tb : TE) (t : TA) : TE := fun σ H Q => t σ H fun vs H1 => ∃ (a : Addr) (xs : List V) (kf : V → Int × Int), vs = [.ref a] ∧ SqT K H1 a xs ∧ (∀ x ∈ xs, ∃ b, x = V.ref b) ∧ TabS H1 P q ∧
  (∀ x ∈ xs, ∀ H', ExtN H1 H' → ∀ Q' : VK, (∀ p, H' p = none → Q' (.ref p) (upd H' p (.tup [.int (kf x).1, .int (kf x).2]))) → tb (startF N [x] (js.map (slotAt σ))) H' Q') ∧
  ∀ (ys : List V) (D : Addr) (H' : Hp), ys.Perm xs → Srtd (ltP kf) ys → Tg P q H1 H' → H1 D = none → H' D = some (.lst ys) → Q (.ref D) H'
section
variable {X : Cx} {x : Str} {p pos kpos lpos : Pos} {e : Expr} {t : TA} {N fr : List Str} {x0 : Str} {js : List Nat} {k : Nat} {c P : Addr} {params : Arguments} {body : Expr} {scope : Scope} {tb : TE}
theorem sqT_extN {K : PySem.W.Frag} {H H' : Hp} {a : Addr} {xs : List V} (h : SqT K H a xs) (e : ExtN H H') : SqT K H' a xs := by
  rcases h with (z | ⟨o, z⟩) | z
  · exact Or.inl (Or.inl (e _ _ z (fun ps => by simp)))
  · exact Or.inl (Or.inr ⟨o, e _ _ z (fun ps => by simp)⟩)
  · exact Or.inr z
theorem codeO_noT {c : Addr} {q : Str} : noT (CodeO c q) := trivial
/-- the lambda's object is made at f; its code object c' is known then -/
theorem lam_made {pins : List (Addr × Obj)} {σ : L2.St} {H : Hp} {s : Shared} {E : Value → Shared → Prop} {Q : Value → Shared → Prop} (I : Inv X pins σ H s) (tb0 : TabB X.base X.mg c P) (hcode : X.env.code = .ref c) (hT : TabS H P (X.env.qual ++ "<lambda>"))
    (hdef : defaultsOf params X.env = ([], [])) (hcl : ∀ y ∈ scope.names, y.2 = .free → ∃ d, X.env.cells.lookup y.1 = some d)
    (h : ∀ (f c' : Addr) (pm ctv : Value) (H1 : Hp) (s' : Shared), Inv X pins σ H1 s' → Tg P (X.env.qual ++ "<lambda>") H H1 → (∀ b, H1 b = none → H b = none) → s'.heap.get? f = some (PySem.W.kla_obj "<lambda>" (X.env.qual ++ "<lambda>") params body scope (cloFrom X.env.cells scope.names []) pm c' ctv) →
      H1 f = none → f ∉ frs X.stack → H1 c' = some (CodeO c' (X.env.qual ++ "<lambda>")) → Q (.ref f) s') :
    wpAny (model X.prog X.w) X.A (eval (.Lambda params body scope lpos) X.env) Q E s := by
  obtain ⟨ps, hP, tri, cod⟩ := hT
  refine PySem.W.kla_eval hdef ?_
  have hb0 : s.heap.BuiltinsAt X.mg P := tb0.bm.keeps I.bk
  have hP0 : s.heap.get? P = some { cls := .none, data := .fields ps } := I.hok P _ hP
  have fresh : ∀ g : Addr, s.heap.objs.size ≤ g → g ∉ frs X.stack := by
    intro g hg z
    rcases List.mem_cons.mp (I.stkSub _ z) with z1 | z1
    · have z2 := I.lt
      rw [← z1] at z2
      exact absurd (Nat.lt_of_lt_of_le z2 hg) (Nat.lt_irrefl _)
    · exact I.nofs hg z1
  match hc : codeAmong lpos ps.toList with
  | some cv =>
    obtain ⟨c', rfl, hco⟩ := cod lpos cv hc
    refine PySem.W.kla_makeFunctionHit (c := c) (ps := ps) (closure_ok hcl) I.ok.glob (I.mod.glob.keeps I.bk) hcode (tb0.code.keeps I.bk) hP0 tri hc hb0 ?_
    intro ctv h' tk keep hsz
    refine h h'.objs.size c' _ ctv H _ (I.kept fun b o z => Heap.get?_push_of_some _ (keep b o z)) ⟨Kp.refl H, ⟨ps, hP, tri, cod⟩, id⟩ (fun _ z => z) (Heap.get?_push_size _ rfl) (I.hok.fresh hsz) (fresh _ hsz) hco
  | none =>
    refine PySem.W.kla_makeFunction (c := c) (ps := ps) (closure_ok hcl) I.ok.glob (I.mod.glob.keeps I.bk) hcode (tb0.code.keeps I.bk) hP0 tri hc tb0.gP hb0 ?_
    intro c' ctv h' tk keep hge hlt hrec htab
    obtain ⟨c2, oc, flds, tok, ec, hoc, hdat, hfl⟩ := hrec
    cases ec
    have hsz : s.heap.objs.size ≤ h'.objs.size := Nat.le_of_lt (Nat.lt_of_le_of_lt hge hlt)
    have nC : H c' = none := I.hok.fresh hge
    have nPC : P ≠ c' := ne_of_none hP nC
    have hatP : upd (upd H P (.tbl (ps ++ #[rawInt lpos.line, rawInt lpos.col, .ref c']))) c' (CodeO c' (X.env.qual ++ "<lambda>")) P = some (.tbl (ps ++ #[rawInt lpos.line, rawInt lpos.col, .ref c'])) := by
      rw [upd_ne nPC, upd_same]
    have K1 : Kp [P] H (upd (upd H P (.tbl (ps ++ #[rawInt lpos.line, rawInt lpos.col, .ref c']))) c' (CodeO c' (X.env.qual ++ "<lambda>"))) := by
      intro b o e m
      rw [upd_ne (ne_of_none e nC), upd_ne (fun z => m (List.mem_singleton.mpr z))]
      exact e
    have lst : (ps ++ #[rawInt lpos.line, rawInt lpos.col, .ref c']).toList = ps.toList ++ [rawInt lpos.line, rawInt lpos.col, .ref c'] := by
      rw [Array.toList_append]
    refine h h'.objs.size c' _ ctv _ _ (inv_table (t' := tk) (more := #[rawInt lpos.line, rawInt lpos.col, .ref c']) I hP (fun b o hbn z => Heap.get?_push_of_some _ (keep b o hbn z)) (Heap.get?_push_of_some _ htab) hge ⟨oc, flds, tok, Heap.get?_push_of_some _ hoc, hdat, hfl⟩)
      ⟨K1, ⟨_, hatP, ?_, ?_⟩, ?_⟩ ?_ (Heap.get?_push_size _ rfl) ?_ (fresh _ hsz) upd_same
    · rw [lst]
      exact PySem.TriplesOk_snoc _ _ _ _ tri
    · intro pos' cv hcv
      rw [lst] at hcv
      rcases among_app _ tri hcv with z | z
      · obtain ⟨d, rfl, hd⟩ := cod pos' cv z
        exact ⟨d, rfl, K1 _ _ hd (fun m => by
          rw [List.mem_singleton] at m
          rw [m, hP] at hd
          exact codeO_ne ps (Option.some.inj hd).symm)⟩
      · exact ⟨c', z, upd_same⟩
    · intro nt0
      exact NoT.upd (NoT.upd (o := .tbl _) nt0 trivial) codeO_noT
    · intro b e
      exact (nil_upd (nil_upd e).2).2
    · have z1 : h'.objs.size ≠ c' := Nat.ne_of_gt hlt
      have z2 : h'.objs.size ≠ P := Nat.ne_of_gt (Nat.lt_of_lt_of_le (Heap.lt_size hP0) hsz)
      rw [upd_ne z1, upd_ne z2]
      exact I.hok.fresh hsz
theorem kp_extN {H H' : Hp} {q : Str} (h : Kp [P] H H') (t : TabS H P q) : ExtN H H' := by
  intro b o e n
  refine h b o e (fun m => ?_)
  rw [List.mem_singleton] at m
  obtain ⟨ps, hP, _⟩ := t
  rw [m, hP] at e
  exact n ps (Option.some.inj e).symm
theorem pe_sortedLam (tb0 : TabB X.base X.mg c P) (hcode : X.env.code = .ref c) (hdef : defaultsOf params X.env = ([], [])) (hfree : ∀ y ∈ scope.names, y.2 = .free → X.env.scope.names.lookup y.1 = some .cell ∨ X.env.scope.names.lookup y.1 = some .free)
    (hfr : ∀ y ∈ fr, (y, NameKind.free) ∈ scope.names) (hjs : js.map (fun j => X.N[j]?) = fr.map some) (S : NScope N [x0] fr scope) (hr : Room (k + 3) X.A)
    (hb : ∀ (pm ctv u : Value) (c' : Addr) (cl : List (Str × Addr)), bindArgs (PySem.W.kla_fn "<lambda>" (X.env.qual ++ "<lambda>") params body scope cl pm (.ref c') ctv) ⟨[u], []⟩ = pure ([x0].zip [u]))
    (hbody : ∀ (cl : List (Str × Addr)) (c' f : Addr) (A : Around) (outer : List Env) (s' : Shared) (H' : Hp), Room k (A.deeper (envF ⟨"<lambda>", X.env.qual ++ "<lambda>", params, [], scope, cl, c'⟩ f s'.heap.objs.size)) → PE (ncx CX0 X.prog X.w X.K X.mg X.base N ⟨"<lambda>", X.env.qual ++ "<lambda>", params, [], scope, cl, c'⟩ f A outer s' H' E0) body tb)
    (hg : Gl X x) (hm : X.mg x = none) (hv : bootBuiltins x = some (.builtin "sorted")) (ha : PA X [e] t) (hn : x ≠ "__name__" := by decide) (hdb : (x == ("__debug__" : Str)) = false := by decide)
    (he : backTo pos (starEach [e] X.env) = (false, eval e X.env) :: backTo pos (starEach [] X.env) := by rfl) (hpl : (backTo pos (starEach [e] X.env)).any (·.1) = false := by rfl) :
    PE X (.Call (.Name x p) [e] [⟨some "key", .Lambda params body scope lpos, kpos⟩] pos) (tSortLam X.K P (X.env.qual ++ "<lambda>") N js tb t) := by
  refine ⟨fun pins s σ H Q I h => ?_⟩
  refine wpAny_Call_Name_kw (ld_blt I hg hm hv ?_ hn hdb)
  refine PyProof.Rows.callWith_kw (thn (ha.run pos pins s σ H _ I h) ?_) he hpl rfl rfl
  rintro us s1 ⟨vs, H1, I1, r1, a, xs, kf, rfl, hsq, hxs, hT, hkey, q⟩
  obtain rfl := Vals.ref1 r1
  have hcl : ∀ y ∈ scope.names, y.2 = .free → ∃ c, X.env.cells.lookup y.1 = some c := fun y hy z => (hfree y hy z).elim (fun z => I.ok.has _ (Or.inl z)) (fun z => I.ok.has _ (Or.inr z))
  show wpAny _ _ (evalAll [(do let v ← eval (.Lambda params body scope lpos) X.env; standAt pos; pure v)]) _ _ s1
  refine wpAny_evalAll_cons (wpAny_bind (lam_made I1 tb0 hcode hT hdef hcl ?_))
  intro f c' pm ctv H2 s2 I2 tg old hf hfn hfrs hco
  refine wpAny_bind (wpAny_standAt (wpAny_pure (wpAny_evalAll_nil ?_)))
  have cp : Caps X (cloFrom X.env.cells scope.names []) fr js := Caps.made I.ok hfree hfr hjs
  have ext : ExtN H1 H2 := kp_extN tg.kp hT
  refine sortLam_run (F := ⟨"<lambda>", X.env.qual ++ "<lambda>", params, [], scope, cloFrom X.env.cells scope.names [], c'⟩) (kf := kf) (xs := xs) (fr := fr) (js := js) (x0 := x0) (N := N) (k := k) I2 (sqT_extN hsq ext) hxs hf hfn hfrs hco cp S (fun u => hb pm ctv u c' _) hr ?_ ?_
  · intro y hy A outer s' H' hr' sm
    refine ⟨tb, hbody _ c' f A outer s' H' hr', fun Q' hQ => hkey y hy H' (fun b o e n => sm b o (ext b o e n)) Q' hQ⟩
  · intro ys D H' pm2 sr sm nt nD hD
    exact q ys D H' pm2 sr ⟨fun b o e m => sm b o (tg.kp b o e m), tg.tab.ext sm, fun z => nt (tg.nt z)⟩ (old D nD) hD
end
end TB
/-! The end of a law with one table, where repr may be called. -/
namespace TB
open PySem PySem.Spec PyProof.Rows L2 LamX
/-- at the law's call: nothing is tracked but the script and the table at T -/
def OnlyT (T : Addr) (H : Hp) : Prop := ∀ b, H b = none ∨ (b = T ∧ H b = some (.tbl #[])) ∨ ∃ o xs, H b = some (.frz o (.lst xs))
theorem OnlyT.noT {T : Addr} {H : Hp} (h : OnlyT T H) : NoT H := by
  intro b o e
  rcases h b with z | ⟨_, z⟩ | ⟨o2, xs, z⟩
  · rw [z] at e
    exact nomatch e
  · rw [z] at e
    cases e
    exact trivial
  · rw [z] at e
    cases e
    exact trivial
theorem law_callTG {P : Program} {w : World} {K : PySem.W.Frag} {mg mb : Str → Option Value} {CX : CXT} {k : Nat} {fa a c T : Addr} {fd : FuncData} {x : Str} {sp : Sp} {s₁ : Shared} {vs : List Value} {ns : List Int}
    (KX : K.In s₁.heap) (hns : s₁.heap.Ns mainGlobals mg) (hb : s₁.heap.Ns builtinsNs mb) (hbb : ∀ y : Str, y ≠ "__name__" → mb y = bootBuiltins y) (hlim : s₁.heap.NoLimit) (hg : s₁.gens = #[])
    (hT : s₁.heap.get? T = some { cls := .none, data := .fields #[] }) (nT : K.lookup T = none) (cd : PySem.W.CodeHd s₁.heap c T)
    (hbm : ∃ (bm : Addr) (ob : Obj), mg "__builtins__" = some (.ref bm) ∧ bm ≠ builtinsNs ∧ s₁.heap.get? bm = some ob ∧ ob.cls = .type "module" ∧ ob.dict = some builtinsNs ∧ ob.data = .plain)
    (ha : s₁.heap.get? a = some { cls := .type "list", data := .seq vs.toArray }) (hi : IntsAre vs ns) (hl : ns.length ≤ sizeLine) (hr : Room k callerA)
    (F : ∀ base : Heap, K.In base → base.Ns mainGlobals mg → TabB base mg c T → FnG P w K mg base CX k fa fd [x] sp) (hbind : ∀ (s : Shared) (u : Value), BindsTo s fd ⟨[u], []⟩ [(x, u)])
    (hsp : ∀ H : Hp, OnlyT T H → H T = some (.tbl #[]) → SqL K H a (ns.map V.int) → sp [.ref a] H (fun v _ => v = .bl true) (fun _ _ _ => False)) (hCX : ∀ H e s', CX [] H s₁ (fun _ _ _ => False) e s' → False) :
    codeAny (model P w) callerA (.call (.ref fa) ⟨[.ref a], []⟩) (fun r s' => r = .ok (.ret (.bool true)) ∧ OldK s₁.heap s'.heap ∧ s'.os = s₁.os ∧ AllBare s'.gens) s₁ := by
  have lenV := hi.length
  have aT : a ≠ T := by
    intro z
    rw [z, hT] at ha
    have z2 := congrArg Obj.data (Option.some.inj ha)
    exact nomatch (show Data.fields #[] = Data.seq vs.toArray _ from z2)
  suffices core : ∀ H : Hp, OnlyT T H → H T = some (.tbl #[]) → SqL K H a (ns.map V.int) → HOk P w H s₁.heap → (∀ b, H b ≠ none → b = a ∨ b = T) → (H a ≠ none → K.lookup a = none) →
      codeAny (model P w) callerA (.call (.ref fa) ⟨[.ref a], []⟩) (fun r s' => r = .ok (.ret (.bool true)) ∧ OldK s₁.heap s'.heap ∧ s'.os = s₁.os ∧ AllBare s'.gens) s₁ by
    cases hk : K.lookup a with
    | some o =>
      have e := (KX a o hk).symm.trans ha
      cases e
      have at_ : ∀ b u, upd (fun _ => none) T (.tbl #[]) b = some u → b = T ∧ u = .tbl #[] := by
        intro b u z
        by_cases q : b = T
        · rw [q, upd_same] at z
          exact ⟨q, (Option.some.inj z).symm⟩
        · rw [upd_ne q] at z
          exact nomatch z
      refine core (upd (fun _ => none) T (.tbl #[])) (fun b => ?_) upd_same (Or.inr ⟨_, vs.toArray, _, hk, rfl, rfl, rfl, ?_, ?_⟩) (fun b u z => ?_) (fun b z => ?_) (fun z => ?_)
      · by_cases q : b = T
        · rw [q]
          exact Or.inr (Or.inl ⟨rfl, upd_same⟩)
        · exact Or.inl (by rw [upd_ne q])
      · rw [List.size_toArray, lenV]
        exact hl
      · rw [List.toList_toArray]
        exact vals_ints hi
      · obtain ⟨rfl, rfl⟩ := at_ b u z
        exact hT
      · cases q : upd (fun _ => none) T (.tbl #[]) b with
        | none => exact absurd q z
        | some u => exact Or.inr (at_ b u q).1
      · rw [upd_ne aT] at z
        exact absurd rfl z
    | none =>
      let H0 : Hp := upd (upd (fun _ => none) T (.tbl #[])) a (.frz { cls := .type "list", data := .seq vs.toArray } (.lst (ns.map V.int)))
      have at_ : ∀ b u, H0 b = some u → (b = a ∧ u = .frz { cls := .type "list", data := .seq vs.toArray } (.lst (ns.map V.int))) ∨ (b = T ∧ u = .tbl #[]) := by
        intro b u z
        have z2 : upd (upd (fun _ => none) T (.tbl #[])) a (.frz { cls := .type "list", data := .seq vs.toArray } (.lst (ns.map V.int))) b = some u := z
        by_cases q : b = a
        · rw [q, upd_same] at z2
          exact Or.inl ⟨q, (Option.some.inj z2).symm⟩
        · rw [upd_ne q] at z2
          by_cases q2 : b = T
          · rw [q2, upd_same] at z2
            exact Or.inr ⟨q2, (Option.some.inj z2).symm⟩
          · rw [upd_ne q2] at z2
            exact nomatch z2
      refine core H0 (fun b => ?_) ?_ (Or.inl (Or.inr ⟨_, upd_same⟩)) (fun b u z => ?_) (fun b z => ?_) (fun _ => hk)
      · cases q : H0 b with
        | none => exact Or.inl rfl
        | some u =>
          rcases at_ b u q with ⟨_, z⟩ | ⟨z1, z⟩
          · exact Or.inr (Or.inr ⟨_, _, congrArg some z⟩)
          · exact Or.inr (Or.inl ⟨z1, congrArg some z⟩)
      · show upd (upd (fun _ => none) T (.tbl #[])) a _ T = _
        rw [upd_ne aT.symm, upd_same]
      · rcases at_ b u z with ⟨rfl, rfl⟩ | ⟨rfl, rfl⟩
        · refine ⟨ha, ?_, vs, _, vals_ints hi, ha⟩
          rw [List.length_map]
          exact hl
        · exact hT
      · cases q : H0 b with
        | none => exact absurd q z
        | some u =>
          rcases at_ b u q with ⟨z1, _⟩ | ⟨z1, _⟩
          · exact Or.inl z1
          · exact Or.inr z1
  intro H hO hHT hS hok hA hK
  have off : ∀ {b : Addr} {o : Obj}, s₁.heap.get? b = some o → (∀ es n, o.data ≠ .seq es n) → o.data ≠ .fields #[] → H b = none := by
    intro b o e d1 d2
    cases q : H b with
    | none => rfl
    | some u =>
      rcases hA b (by rw [q]; exact Option.some_ne_none u) with z | z
      · rw [z, ha] at e
        cases e
        exact absurd rfl (d1 _ _)
      · rw [z, hT] at e
        cases e
        exact absurd rfl d2
  have nsK : ∀ {b : Addr} {m : Str → Option Value}, s₁.heap.Ns b m → (hidT s₁.heap H).Ns b m := by
    rintro b m ⟨o, es, ep, e, d, r⟩
    refine ⟨o, es, ep, hidT_get e (off e ?_ ?_), d, r⟩
    · intro _ _ z
      rw [d] at z
      exact nomatch z
    · intro z
      rw [d] at z
      exact nomatch z
  have hKb : K.In (hidT s₁.heap H) := by
    intro b o e
    refine hidT_get (KX b o e) ?_
    cases q : H b with
    | none => rfl
    | some u =>
      rcases hA b (by rw [q]; exact Option.some_ne_none u) with z | z
      · subst z
        rw [hK (by rw [q]; exact Option.some_ne_none u)] at e
        exact nomatch e
      · rw [z, nT] at e
        exact nomatch e
  obtain ⟨mc, h1, h2⟩ := hlim
  have hM : Mod K mg (hidT s₁.heap H) := ⟨hKb, nsK hns, ⟨mb, nsK hb, hbb⟩, ⟨mc, nsK h1, h2⟩⟩
  have tab : TabB (hidT s₁.heap H) mg c T := by
    refine ⟨?_, ?_, fun z => ?_⟩
    · obtain ⟨o, us, file, tf, flags, tg, inF, text, tt, e1, r1, r2, r3, r4⟩ := id cd
      refine ⟨o, us, file, tf, flags, tg, inF, text, tt, hidT_get e1 (off e1 ?_ ?_), r1, r2, r3, r4⟩
      · intro _ _ z
        rw [r2] at z
        exact nomatch z
      · intro z
        rw [r2] at z
        cases z
        exact absurd r3 (by simp)
    · obtain ⟨bm, ob, b1, b2, b3, b4, b5, b6⟩ := hbm
      have nb : H bm = none := by
        refine off b3 ?_ ?_
        · intro _ _ z
          rw [b6] at z
          exact nomatch z
        · intro z
          rw [b6] at z
          exact nomatch z
      refine ⟨bm, ob, b1, b2, ?_, ?_, hidT_get b3 nb, b4, b5, b6⟩
      · intro z
        obtain ⟨o, es, ep, e, d, _⟩ := hns
        rw [z, e] at b3
        cases b3
        rw [d] at b6
        exact nomatch b6
      · intro z
        rw [z, hT] at b3
        cases b3
        exact nomatch b6
    · obtain ⟨o, es, ep, e, d, _⟩ := hns
      rw [z, hT] at e
      cases e
      exact nomatch d
  have e0 : Env0 P w K mg (hidT s₁.heap H) callerA [] s₁ H :=
    ⟨rfl, hM, fun b o e => of_hidT e, Nat.le_of_eq (hidT_size _ _), trivial, fun b z => (nomatch (show b ∈ ([] : List Addr) from z)), hok, .of_eq hg⟩
  refine codeAny_mono ((F _ hKb (nsK hns) tab).runG callerA [] s₁ H ⟨[.ref a], []⟩ [.ref a] [.ref a] _ _ rfl hr e0 (hbind s₁ (.ref a)) (.cons rfl .nil) (hsp H hO hHT hS)) ?_
  rintro (er | (_ | _ | _ | u)) s' h
  · exact (hCX H er s' h).elim
  · exact h.elim
  · exact h.elim
  · exact h.elim
  obtain ⟨v, H', os, bare, un, hok', r', q⟩ := h
  obtain rfl : v = .bl true := q
  obtain rfl : u = Value.bool true := r'
  obtain ⟨more, hmore⟩ := un.tbls T #[] hHT
  have grown : s'.heap.get? T = some { cls := .none, data := .fields (#[] ++ more) } := hok' T _ hmore
  have key : ∀ b o, b ≠ T → s₁.heap.get? b = some o → s'.heap.get? b = some o := by
    intro b o hbT e
    cases q : H b with
    | none => exact un.keep b o e q (fun z => nomatch (show b ∈ ([] : List Addr) from z)) (fun z => nomatch z)
    | some y =>
      rcases hO b with z | ⟨z, _⟩ | ⟨ob, xs, z⟩
      · exact nomatch (q.symm.trans z)
      · exact absurd z hbT
      · have e1 := (hok b _ z).1
        have e2 := (hok' b _ (un.frzs b ob _ z)).1
        rw [e] at e1
        cases e1
        exact e2
  refine ⟨rfl, ⟨fun b o e => ?_, fun b o e => ?_⟩, os, bare⟩
  · by_cases hb2 : b = T
    · rw [hb2, hT] at e
      cases e
      rw [hb2]
      exact Or.inr (Or.inl ⟨(cd.tab hT).isCodeTable, rfl, #[], more, rfl, grown⟩)
    · exact Or.inl (key b o hb2 e)
  · by_cases hb2 : b = T
    · rw [hb2]
      exact ⟨_, grown⟩
    · exact ⟨o, key b o hb2 e⟩
theorem walk_ofTG {l : PySem.W.OpenLaw} {n k : Nat} {q : Program} {loose : List Str} {XP : (Str → Option Value) → Heap → Prop} {YP : World → Heap → Prop} {d : DefRec} {CX : CXT} {x : Str}
    (hn : l.most = some n) (hn2 : n ≤ sizeLine) (hdf : d.params.defaults = []) (hr : Room k callerA)
    (F : ∀ (w : World) (mg : Str → Option Value) (fa : Addr) (h : Heap), YP w h → h.Ns mainGlobals mg → mg d.name = some (.ref fa) →
      ∃ (K : PySem.W.Frag) (fd : FuncData) (sp : Sp) (c T : Addr), K.In h ∧ h.get? T = some { cls := .none, data := .fields #[] } ∧ K.lookup T = none ∧ PySem.W.CodeHd h c T ∧ (∀ (s : Shared) (u : Value), BindsTo s fd ⟨[u], []⟩ [(x, u)]) ∧
        (∀ (H : Hp) (a : Addr) (ns : List Int), ns.length ≤ n → OnlyT T H → H T = some (.tbl #[]) → SqL K H a (ns.map V.int) → sp [.ref a] H (fun v _ => v = .bl true) (fun _ _ _ => False)) ∧
        ∀ base : Heap, K.In base → base.Ns mainGlobals mg → TabB base mg c T → FnG l.prog w K mg base CX k fa fd [x] sp)
    (hCX : ∀ (H : Hp) (s : Shared) (e : Value) (s' : Shared), CX [] H s (fun _ _ _ => False) e s' → False) :
    PySem.W.WalkO q loose XP YP l.row.toRowW d [] (fun f vs => PySem.call f vs) := by
  refine Att.attach_call hn hdf ?_
  intro w s₀ s₁ mg mb fa o pm cd doc a vs ns G Y ho hd hcd hmg hobj hints hlen hg
  obtain ⟨K, fd, sp, c, T, kx, hT, nT, chd, hb, hsp, hF⟩ := F w mg fa _ Y G.T.g hmg
  exact law_callTG kx G.T.g G.T.b G.T.builtins G.T.nolimit hg hT nT chd G.T.bmain hobj hints (Nat.le_trans hlen hn2) hr hF hb (fun H hO hH hS => hsp H a ns hlen hO hH hS) (fun H e s' => hCX H s₁ e s')
end TB
/-! Pairs of texts, orders of them. -/
namespace TB
open PySem PySem.Spec PyProof.Rows L2 LamX
abbrev Pr := Str × Str
/-! ### tuples of pairs -/
def Prs (H : Hp) : List V → List Pr → Prop := Paired fun (x : V) (p : Pr) => ∃ t, x = .ref t ∧ H t = some (.tup [.str p.1, .str p.2])
def dPr (p : Pr) : PyData := .tuple [.str p.1, .str p.2]
theorem Prs.keep {H H' : Hp} {rs : List V} {ps : List Pr} (h : Prs H rs ps) (k : ∀ b xs, H b = some (.tup xs) → H' b = some (.tup xs)) : Prs H' rs ps := Paired.mapP h fun x p ⟨t, e, z⟩ => ⟨t, e, k _ _ z⟩
theorem Prs.refs {H : Hp} : ∀ {rs : List V} {ps : List Pr}, Prs H rs ps → ∀ x ∈ rs, ∃ t, x = V.ref t
  | _, _, .nil, x, hx => nomatch hx
  | _, _, .cons ⟨t, e, _⟩ r, x, hx => by
    rcases List.mem_cons.mp hx with z | z
    · exact ⟨t, z.trans e⟩
    · exact Prs.refs r x z
theorem Prs.app {H : Hp} : ∀ {rs rs' : List V} {ps ps' : List Pr}, Prs H rs ps → Prs H rs' ps' → Prs H (rs ++ rs') (ps ++ ps')
  | _, _, _, _, .nil, h => h
  | _, _, _, _, .cons a r, h => .cons a (Prs.app r h)
theorem Prs.dp {K : PySem.W.Frag} {H : Hp} : ∀ {rs : List V} {ps : List Pr}, Prs H rs ps → DpAll K H rs (ps.map dPr)
  | _, _, .nil => .nil
  | _, _, .cons ⟨t, e, z⟩ r => .cons (by rw [e]; exact .tup (sqT_of z) (.cons (.str _) (.cons (.str _) .nil))) (Prs.dp r)
theorem Prs.len {H : Hp} {rs : List V} {ps : List Pr} (h : Prs H rs ps) : rs.length = ps.length := Paired.length h
/-- the pair that x is in H -/
def decP (H : Hp) (x : V) : Pr := match x with
  | .ref t => match H t with
    | some (.tup [.str a, .str b]) => (a, b)
    | _ => (⟨#[]⟩, ⟨#[]⟩)
  | _ => (⟨#[]⟩, ⟨#[]⟩)
theorem decP_eq {H : Hp} {t : Addr} {p : Pr} (h : H t = some (.tup [.str p.1, .str p.2])) : decP H (.ref t) = p := by
  show (match H t with
    | some (.tup [.str a, .str b]) => (a, b)
    | _ => ((⟨#[]⟩, ⟨#[]⟩) : Pr)) = p
  rw [h]
theorem Prs.dec {H : Hp} : ∀ {rs : List V} {ps : List Pr}, Prs H rs ps → ps = rs.map (decP H)
  | _, _, .nil => rfl
  | _, _, .cons ⟨t, e, z⟩ r => by rw [List.map_cons, ← Prs.dec r, e, decP_eq z]
theorem Prs.mem {H : Hp} : ∀ {rs : List V} {ps : List Pr}, Prs H rs ps → ∀ x ∈ rs, ∃ t, x = .ref t ∧ decP H x ∈ ps ∧ H t = some (.tup [.str (decP H x).1, .str (decP H x).2])
  | _, _, .nil, x, hx => nomatch hx
  | _, _, .cons ⟨t, e, z⟩ r, x, hx => by
    rcases List.mem_cons.mp hx with q | q
    · refine ⟨t, q.trans e, ?_⟩
      rw [q, e, decP_eq z]
      exact ⟨List.mem_cons_self, z⟩
    · obtain ⟨t2, e2, m, z2⟩ := Prs.mem r x q
      exact ⟨t2, e2, List.mem_cons_of_mem _ m, z2⟩
theorem prs_of {H : Hp} : ∀ {rs : List V}, (∀ x ∈ rs, ∃ t, x = .ref t ∧ H t = some (.tup [.str (decP H x).1, .str (decP H x).2])) → Prs H rs (rs.map (decP H))
  | [], _ => .nil
  | x :: r, h => .cons (h x List.mem_cons_self) (prs_of fun y hy => h y (List.mem_cons_of_mem _ hy))
theorem strOk_nm {z : Str} (h : Nm z) : PyData.strOk z = true := by
  unfold PyData.strOk
  rw [Array.all_eq_true_iff_forall_mem]
  intro c hc
  have h1 := h.2.2 c (Array.mem_toList_iff.mpr hc)
  exact decide_eq_true (by omega)
def NmP (p : Pr) : Prop := Nm p.1 ∧ Nm p.2
theorem dPr_lay {p : Pr} (h : NmP p) : (dPr p).canLay0 = true := by simp [dPr, PyData.canLay0, PyData.canLayAll0, strOk_nm h.1, strOk_nm h.2]
theorem dPr_depth (p : Pr) : (dPr p).depth ≤ 2 := by simp [dPr, PyData.depth, PyData.depthAll]
theorem dPrs_lay : ∀ {ps : List Pr}, (∀ p ∈ ps, NmP p) → PyData.canLayAll0 (ps.map dPr) = true
  | [], _ => by simp [PyData.canLayAll0]
  | p :: r, h => by simp [PyData.canLayAll0, dPr_lay (h p List.mem_cons_self), dPrs_lay fun q hq => h q (List.mem_cons_of_mem _ hq)]
theorem dPrs_depth : ∀ ps : List Pr, PyData.depthAll (ps.map dPr) ≤ 2
  | [] => by simp [PyData.depthAll]
  | p :: r => by
    have h1 := dPrs_depth r
    have h2 := dPr_depth p
    simp only [List.map_cons, PyData.depthAll]
    omega
theorem dPr_eqv (p q : Pr) : PyData.eqv (dPr p) (dPr q) = decide (p = q) := by
  obtain ⟨a, b⟩ := p
  obtain ⟨c, d⟩ := q
  have e : PyData.eqv (dPr (a, b)) (dPr (c, d)) = ((a == c) && ((b == d) && true)) := by simp only [dPr, PyData.eqv, PyData.eqvAll]
  rw [e]
  by_cases h1 : a = c
  · by_cases h2 : b = d
    · subst h1 h2
      simp
    · have z : ((a, b) : Pr) ≠ (c, d) := fun z => h2 (Prod.mk.inj z).2
      rw [decide_eq_false z, beq_eq_false_iff_ne.mpr h2, Bool.false_and, Bool.and_false]
  · have z : ((a, b) : Pr) ≠ (c, d) := fun z => h1 (Prod.mk.inj z).1
    rw [decide_eq_false z, beq_eq_false_iff_ne.mpr h1, Bool.false_and]
theorem any_pr (ps : List Pr) (p : Pr) : ((ps.map dPr).any fun z => PyData.eqv z (dPr p)) = decide (p ∈ ps) := by
  induction ps with
  | nil => simp
  | cons q r ih =>
    rw [List.map_cons, List.any_cons, ih, dPr_eqv]
    by_cases h : q = p
    · subst h
      simp
    · have h2 : p ≠ q := fun z => h z.symm
      simp [h, h2]
/-- (a, b) in pairs, a tuple or a list of pairs -/
def rInP : R2 := fun x y H Q => ∃ (t q : Addr) (p : Pr) (rs : List V) (ps : List Pr), x = .ref t ∧ y = .ref q ∧ H t = some (.tup [.str p.1, .str p.2]) ∧ (H q = some (.tup rs) ∨ H q = some (.lst rs)) ∧ Prs H rs ps ∧ NmP p ∧ (∀ z ∈ ps, NmP z) ∧ Q (.bl (decide (p ∈ ps))) H
section
variable {X : Cx}
theorem op_inP (hu : X.A.units + 65 < cLine) : OpR X (compareOp .In) rInP := by
  intro pins s σ H x y v u Q I rx ry h
  obtain ⟨t, q, p, rs, ps, rfl, rfl, ht, hq, hp, np, nps, k⟩ := h
  have d1 : Dp X.K H (.ref t) (dPr p) := .tup (sqT_of ht) (.cons (.str _) (.cons (.str _) .nil))
  obtain ⟨as, r1⟩ := Dp.reads I _ _ v d1 rx
  have room : X.A.units + 1 + min (PyData.depthAll (ps.map dPr)) (dPr p).depth < cLine := by
    have h1 := dPr_depth p
    have h2 := Nat.min_le_right (PyData.depthAll (ps.map dPr)) (dPr p).depth
    omega
  have k2 : EP X pins σ Q (.bool ((ps.map dPr).any fun z => PyData.eqv z (dPr p))) s := by
    rw [any_pr]
    exact ⟨.bl _, H, I, rfl, k⟩
  rcases hq with hq | hq
  · obtain ⟨bs, r2⟩ := Dp.reads I (.tuple (ps.map dPr)) _ u (.tup (sqT_of hq) hp.dp) ry
    exact SeqAt.in_tuple_reads r2 r1 (dPrs_lay nps) (dPr_lay np) room k2
  · obtain ⟨bs, r2⟩ := Dp.reads I (.list (ps.map dPr)) _ u (.lst (sqL_of hq) hp.dp) ry
    exact SeqAt.in_list_reads r2 r1 (dPrs_lay nps) (dPr_lay np) room k2
theorem kSFld (K : PySem.W.Frag) {st : Stmt} {ta tv : TE} {f : Str} (h : PS X st (sFld X.K ta tv f)) (hK : X.K = K := by rfl) : PS X st (sFld K ta tv f) := by subst hK; exact h
/-- tuple.index of a text -/
def rTupIx (K : PySem.W.Frag) : V → List V → Hp → VK → Prop := fun x xs H Q => ∃ p, ∃ ys : List Str, ∃ z j, x = .ref p ∧ xs = [.str z] ∧ SqT K H p (ys.map V.str) ∧ ys[j]? = some z ∧ (∀ m, m < j → ys[m]? ≠ some z) ∧ Q (.int (j : Nat)) H
theorem mt_tupIxK (K : PySem.W.Frag) (hK : X.K = K := by rfl) : MtR X "tuple.index" (rTupIx K) := by subst hK; exact mt_tup_index
/-- isinstance(x, str) of a text -/
def rIsStr : List V → Hp → VK → Prop := fun xs H Q => ∃ z, xs = [.str z, .ty "str"] ∧ Q (.bl true) H
theorem call_isStr : CallR X (.builtin "isinstance") rIsStr := by
  intro pins s σ H vs us Q I r h
  obtain ⟨z, rfl, q⟩ := h
  exact call_isi pins s σ H _ us Q I r ⟨.str z, .ty "str", .type "str", .type "str", true, rfl, .ty "str", .base (.str z), rfl, q⟩
end
/-! ### a comprehension that changes nothing -/
section
variable {σ : L2.St} {Q : VK} {tt : TT} {te : TE} {g : TG} {xs : List V} {vs : List Nat} {H1 : Hp} {J : It} {ok : Hp → Prop}
def PurP (H1 : Hp) (xs : List V) (f : V → Option V) (D : Addr) (i : Nat) (a : List V) (H : Hp) : Prop := H = upd H1 D (.lst a) ∧ a = (xs.take i).filterMap f
theorem lc_pure (f : V → Option V) (w : Wk J xs ok) (hk : ∀ (D : Addr) (acc : List V), H1 D = none → ok (upd H1 D (.lst acc)))
    (hs : ∀ (D : Addr) (i : Nat) (x : V) (acc : List V), H1 D = none → xs[i]? = some x → acc = (xs.take i).filterMap f → g x (wipe σ vs) (upd H1 D (.lst acc)) fun σ2 H2 => wipe σ2 vs = wipe σ vs ∧ tt σ2 H2 fun b H3 =>
      if b = true then te σ2 H3 fun y H4 => ∃ acc', H4 D = some (.lst acc') ∧ acc'.length < sizeLine ∧ ∃ a2, PurP H1 xs f D (i + 1) a2 (upd H4 D (.lst (acc' ++ [y]))) else ∃ a2, PurP H1 xs f D (i + 1) a2 H3)
    (hq : ∀ D, H1 D = none → Q (.ref D) (upd H1 D (.lst (xs.filterMap f)))) : LcG J g tt te vs σ Q H1 := by
  refine lc_walk w (fun D i a H => H1 D = none ∧ PurP H1 xs f D i a H) (fun D nD => ⟨nD, rfl, rfl⟩) ?_ ?_ ?_
  · rintro D i acc H ⟨nD, rfl, _⟩
    exact hk D acc nD
  · rintro D i x acc H nD hx ⟨_, rfl, ha⟩
    have z := hs D i x acc nD hx ha
    simp only [nD, true_and]
    exact z
  · rintro D acc H nD ⟨_, rfl, ha⟩
    rw [ha, List.take_length]
    exact hq D nD
theorem take_next {α : Type} {l : List α} {i : Nat} {x : α} (h : l[i]? = some x) : l.take (i + 1) = l.take i ++ [x] := by
  rw [List.take_add_one, h]
  rfl
theorem pur_yes {f : V → Option V} {D : Addr} {i : Nat} {x y : V} {acc : List V} (hz : xs.length < sizeLine) (hx : xs[i]? = some x) (ha : acc = (xs.take i).filterMap f) (hf : f x = some y) :
    ∃ acc', upd H1 D (.lst acc) D = some (.lst acc') ∧ acc'.length < sizeLine ∧ ∃ a2, PurP H1 xs f D (i + 1) a2 (upd (upd H1 D (.lst acc)) D (.lst (acc' ++ [y]))) := by
  refine ⟨acc, upd_same, ?_, acc ++ [y], upd_upd, ?_⟩
  · have h1 := List.length_filterMap_le f (xs.take i)
    rw [List.length_take] at h1
    rw [ha]
    omega
  · rw [take_next hx, List.filterMap_append, ← ha]
    simp [hf]
theorem pur_no {f : V → Option V} {D : Addr} {i : Nat} {x : V} {acc : List V} (hx : xs[i]? = some x) (ha : acc = (xs.take i).filterMap f) (hf : f x = none) : ∃ a2, PurP H1 xs f D (i + 1) a2 (upd H1 D (.lst acc)) := by
  refine ⟨acc, rfl, ?_⟩
  rw [take_next hx, List.filterMap_append, ← ha]
  simp [hf]
end
end TB
namespace TB
open PySem PySem.Spec PyProof.Rows L2 LamX
/-! ### tuples whose object is known -/
/-- the tuple at a, of these texts, made here -/
def LkAt (H : Hp) (a : Addr) (ls : List Str) : Prop := ∃ o : Obj, o.dict = none ∧ H a = some (.frz o (.tup (ls.map V.str)))
theorem LkAt.sq {K : PySem.W.Frag} {H : Hp} {a : Addr} {ls : List Str} (h : LkAt H a ls) : SqT K H a (ls.map V.str) := by
  obtain ⟨o, _, e⟩ := h
  exact Or.inl (Or.inr ⟨o, e⟩)
theorem LkAt.keep {H H' : Hp} {a : Addr} {ls : List Str} (h : LkAt H a ls) (k : ∀ o u, H a = some (.frz o u) → H' a = some (.frz o u)) : LkAt H' a ls := by
  obtain ⟨o, d, e⟩ := h
  exact ⟨o, d, k _ _ e⟩
/-- tuple(e) of texts -/
def rTupF (K : PySem.W.Frag) : List V → Hp → VK → Prop := fun xs H Q => ∃ (p : Addr) (ls : List Str), xs = [.ref p] ∧ ((SqL K H p (ls.map V.str) ∧ ∀ (l : Addr) (o : Obj), H l = none → o.dict = none → Q (.ref l) (upd H l (.frz o (.tup (ls.map V.str))))) ∨ (LkAt H p ls ∧ Q (.ref p) H))
section
variable {X : Cx}
theorem call_tupF (K : PySem.W.Frag) (hK : X.K = K := by rfl) : CallR X (.type "tuple") (rTupF K) := by
  subst hK
  intro pins s σ H xs us Q I r h
  obtain ⟨p, ls, rfl, h⟩ := h
  obtain ⟨u, rfl, rx⟩ := vals1 r
  cases rx
  rcases h with ⟨hq, q⟩ | ⟨hq, q⟩
  · obtain ⟨its, r2, pl, hz⟩ := I.list hq
    refine call_tuple_list pl.isList ?_ (by rw [List.size_toArray, ← r2.length]; exact hz)
    intro h' kp
    have I1 : Inv X pins σ H { s with heap := h' } := I.kept (t' := s.toks) kp
    refine ⟨.ref h'.objs.size, _, I1.laid (o := .frz { cls := .type "tuple", data := .seq its.toArray } (.tup (ls.map V.str))) (t' := s.toks) (fun b o e => Heap.get?_push_of_some _ e) (Nat.le_refl _) ⟨Heap.get?_push_size _ rfl, hz, its, r2, IsTup.new _ _⟩, rfl, q _ _ (I1.hok.fresh (Nat.le_refl _)) rfl⟩
  · obtain ⟨its, r2, pl, hz⟩ := I.tuple (hq.sq (K := X.K))
    exact call_tuple_same pl ⟨.ref p, H, I, rfl, q⟩
def tBMT (r : V → List V → Hp → VK → Prop) (to : TE) (t : TA) : TE := fun σ H Q => to σ H fun x H1 => (∃ a ls, x = .ref a ∧ LkAt H1 a ls) ∧ t σ H1 fun xs H2 => r x xs H2 Q
theorem pe_bmT {o e : Expr} {es : List Expr} {to : TE} {t : TA} {name : Str} {apos cpos : Pos} {id : String} {r : V → List V → Hp → VK → Prop} (slot : Slot "tuple" name id) (hty : typeOf (.builtin id) = pure (.type "method_descriptor")) (hm : MtR X id r) (ho : PE X o to) (ha : PA X (e :: es) t)
    (hbase : attributeBase o name X.env (eval o X.env) = eval o X.env := by rfl)
    (hfew : ((backTo cpos (starEach (e :: es) X.env)).all (fun x => !x.1) && (backToKw cpos (keywordEach [] X.env)).all (fun x => x.1.isSome) && decide ((e :: es).length + ([] : List Keyword).length + (if ([] : List Keyword).isEmpty then 0 else 1) < 30)) = true := by rfl)
    (hline : (apos.endLine == cpos.line) = true := by rfl) (hs : starEach (e :: es) X.env = (false, eval e X.env) :: starEach es X.env := by rfl) (hplain : (backTo cpos (starEach es X.env)).any (·.1) = false := by rfl) :
    PE X (.Call (.Attribute o name apos) (e :: es) [] cpos) (tBMT r to t) := by
  refine ⟨fun pins s σ H Q I h => ?_⟩
  refine wpAny_Call_method_late hbase hfew hline rfl (thn (ho.run pins s σ H _ I h) ?_)
  rintro v s1 ⟨x, H1, I1, r1, ⟨a, ls, rfl, ob, hdn, ea⟩, q1⟩
  obtain rfl : v = Value.ref a := r1
  obtain ⟨eo, _, _, _, o2, eo2, hc, _⟩ := I1.hok a _ ea
  rw [eo] at eo2
  cases eo2
  refine ⟨"tuple", id, PySem.F.plainAttrs_tuple, slot, hty, ⟨ob, eo, hc⟩, fun b eb => ?_, ?_⟩
  · cases eb
    exact ⟨ob, eo, hdn⟩
  · have hA := ha.run cpos pins s1 σ H1 _ I1 q1
    rw [hs] at hA ⊢
    have hno : (backTo cpos ((false, eval e X.env) :: starEach es X.env)).any (·.1) = false := by
      show (false || (backTo cpos (starEach es X.env)).any (·.1)) = false
      rw [hplain]
      rfl
    refine Calls.callWith_builtin hno (Calls.evalArgs_plain (thn hA ?_))
    rintro us s2 ⟨vs, H2, I2, r2, q2⟩
    exact hm pins s2 σ H2 (.ref a) vs (.ref a) us Q I2 rfl r2 q2
end
end TB
/-! Orders: what they hold, what leads where. -/
namespace TB
open PySem PySem.Spec PyProof.Rows L2 LamX
/-! ### plain -/
/-- by pairs one comes from a to b -/
inductive Rch (ps : List Pr) : Str → Str → Prop
  | one {a b : Str} : (a, b) ∈ ps → Rch ps a b
  | step {a b c : Str} : Rch ps a b → (b, c) ∈ ps → Rch ps a c
theorem Rch.trans {ps : List Pr} {a b c : Str} (h : Rch ps a b) (k : Rch ps b c) : Rch ps a c := by
  induction k with
  | one m => exact .step h m
  | step _ m ih => exact .step ih m
theorem Rch.mono {ps qs : List Pr} (s : ∀ p ∈ ps, p ∈ qs) {a b : Str} (h : Rch ps a b) : Rch qs a b := by
  induction h with
  | one m => exact .one (s _ m)
  | step _ m ih => exact .step ih (s _ m)
/-- along a rank that each pair raises -/
theorem Rch.rank {ps : List Pr} (r : Str → Nat) (hr : ∀ p ∈ ps, r p.1 < r p.2) {a b : Str} (h : Rch ps a b) : r a < r b := by
  induction h with
  | one m => exact hr _ m
  | step _ m ih => exact Nat.lt_trans ih (hr _ m)
def afterP (ps : List Pr) (z : Str) : List Str := ps.filterMap fun p => if p.1 = z then some p.2 else none
theorem mem_afterP {ps : List Pr} {z c : Str} : c ∈ afterP ps z ↔ (z, c) ∈ ps := by
  unfold afterP
  rw [List.mem_filterMap]
  constructor
  · rintro ⟨p, hp, e⟩
    by_cases q : p.1 = z
    · rw [if_pos q] at e
      have e2 : p.2 = c := Option.some.inj e
      rw [← q, ← e2]
      exact hp
    · rw [if_neg q] at e
      exact nomatch e
  · intro h
    exact ⟨(z, c), h, if_pos rfl⟩
theorem nodup_afterP : ∀ {ps : List Pr} {z : Str}, ps.Nodup → (afterP ps z).Nodup
  | [], _, _ => List.nodup_nil
  | p :: r, z, h => by
    have h2 := List.nodup_cons.mp h
    have ih := nodup_afterP (z := z) h2.2
    show ((p :: r).filterMap fun p => if p.1 = z then some p.2 else none).Nodup
    by_cases q : p.1 = z
    · rw [List.filterMap_cons, if_pos q]
      refine List.nodup_cons.mpr ⟨fun m => ?_, ih⟩
      have m2 : (z, p.2) ∈ r := mem_afterP.mp m
      rw [← q] at m2
      exact h2.1 m2
    · rw [List.filterMap_cons, if_neg q]
      exact ih
/-- the place of z in ls -/
def ixS (ls : List Str) (z : Str) : Nat := ls.findIdx (fun y => decide (y = z))
theorem ixS_at {ls : List Str} {z : Str} (h : z ∈ ls) : ls[ixS ls z]? = some z ∧ ∀ m, m < ixS ls z → ls[m]? ≠ some z := by
  have h1 : ixS ls z < ls.length := List.findIdx_lt_length_of_exists ⟨z, h, decide_eq_true rfl⟩
  refine ⟨?_, fun m hm e => ?_⟩
  · have h2 := List.findIdx_getElem (p := fun y => decide (y = z)) (w := h1)
    have h3 := of_decide_eq_true h2
    rw [List.getElem?_eq_getElem h1]
    exact congrArg some h3
  · have h2 := List.not_of_lt_findIdx (p := fun y => decide (y = z)) (xs := ls) hm
    obtain ⟨hl, e2⟩ := List.getElem?_eq_some_iff.mp e
    rw [e2] at h2
    exact absurd rfl (of_decide_eq_false h2)
theorem ixS_inj {ls : List Str} {a b : Str} (ha : a ∈ ls) (hb : b ∈ ls) (e : ixS ls a = ixS ls b) : a = b := by
  have h1 := (ixS_at ha).1
  rw [e, (ixS_at hb).1] at h1
  exact (Option.some.inj h1).symm
def keyP (ls : List Str) (p : Pr) : Int × Int := ((ixS ls p.1 : Int), (ixS ls p.2 : Int))
/-- in the order of the locks' places -/
def SortP (ls : List Str) (ps : List Pr) : Prop := ps.Pairwise fun p q => SrtO.lexB (keyP ls q) (keyP ls p) = false
structure OrdOk (ls : List Str) (ps : List Pr) : Prop where
  nd : ls.Nodup
  nm : ∀ z ∈ ls, Nm z
  len : ls.length ≤ 30
  mem : ∀ p ∈ ps, p.1 ∈ ls ∧ p.2 ∈ ls
  pnd : ps.Nodup
  srt : SortP ls ps
theorem OrdOk.nmp {ls : List Str} {ps : List Pr} (h : OrdOk ls ps) : ∀ p ∈ ps, NmP p := fun p hp => ⟨h.nm _ (h.mem p hp).1, h.nm _ (h.mem p hp).2⟩
theorem all_len (ls ms : List Str) : (ls.flatMap fun a => ms.map fun b => ((a, b) : Pr)).length = ls.length * ms.length := by
  induction ls with
  | nil => simp
  | cons a r ih =>
    rw [List.flatMap_cons, List.length_append, ih, List.length_map, List.length_cons, Nat.succ_mul]
    omega
theorem OrdOk.plen {ls : List Str} {ps : List Pr} (h : OrdOk ls ps) : ps.length ≤ 900 := by
  have h1 := nodup_le (m := ls.flatMap fun a => ls.map fun b => ((a, b) : Pr)) h.pnd (fun x hx => List.mem_flatMap.mpr ⟨x.1, (h.mem x hx).1, List.mem_map.mpr ⟨x.2, (h.mem x hx).2, rfl⟩⟩)
  rw [all_len] at h1
  have h2 := Nat.mul_le_mul h.len h.len
  omega
theorem OrdOk.nil {ls : List Str} (nd : ls.Nodup) (nm : ∀ z ∈ ls, Nm z) (len : ls.length ≤ 30) : OrdOk ls [] := ⟨nd, nm, len, (fun _ z => nomatch z), List.nodup_nil, List.Pairwise.nil⟩
/-! ### in the heap -/
structure OrdC (K : PySem.W.Frag) (C : Addr) : Prop where
  cls : Cls K C
  nl : NoAttr K C "own_locks"
  np : NoAttr K C "own_pairs"
def OrdAt (C : Addr) (H : Hp) (x : Addr) (ls : List Str) (ps : List Pr) : Prop := ∃ (dx tl tp : Addr) (rs : List V), H x = some (.ins C dx [("own_locks", .ref tl), ("own_pairs", .ref tp)]) ∧ LkAt H tl ls ∧ H tp = some (.tup rs) ∧ Prs H rs ps
theorem OrdAt.kp {C : Addr} {lo : List Addr} {H H' : Hp} {x : Addr} {ls : List Str} {ps : List Pr} (h : OrdAt C H x ls ps) (k : Kp lo H H') (n : ∀ a ∈ lo, ∀ o, H a = some o → (∀ xs, o ≠ .tup xs) ∧ (∀ ob u, o ≠ .frz ob u) ∧ ∀ C dx fs, o ≠ .ins C dx fs) : OrdAt C H' x ls ps := by
  obtain ⟨dx, tl, tp, rs, h1, h2, h3, h4⟩ := h
  have kt : ∀ b xs, H b = some (.tup xs) → H' b = some (.tup xs) := fun b xs e => k b _ e (fun m => (n b m _ e).1 xs rfl)
  exact ⟨dx, tl, tp, rs, k _ _ h1 (fun m => (n x m _ h1).2.2 _ _ _ rfl), h2.keep (fun ob u e => k _ _ e (fun m => (n tl m _ e).2.1 ob u rfl)), kt _ _ h3, h4.keep kt⟩
theorem OrdAt.same {C : Addr} {H H' : Hp} {x : Addr} {ls : List Str} {ps : List Pr} (h : OrdAt C H x ls ps) (k : ∀ b o, H b = some o → H' b = some o) : OrdAt C H' x ls ps := h.kp (lo := []) (fun b o e _ => k b o e) (fun _ z => nomatch z)
theorem OrdAt.new {C : Addr} {H : Hp} {x p : Addr} {o : HO} {ls : List Str} {ps : List Pr} (h : OrdAt C H x ls ps) (n : H p = none) : OrdAt C (upd H p o) x ls ps := h.same fun _ _ e => old_upd n e
theorem OrdAt.lst {C : Addr} {H : Hp} {x p : Addr} {o : HO} {ys : List V} {ls : List Str} {ps : List Pr} (h : OrdAt C H x ls ps) (n : H p = some (.lst ys)) : OrdAt C (upd H p o) x ls ps :=
  h.kp (lo := [p]) (fun b u e m => oth_upd (fun z => m (List.mem_singleton.mpr z)) e) (fun a m u e => by
    rw [List.mem_singleton.mp m, n] at e
    cases e
    exact ⟨(fun _ z => nomatch z), (fun _ _ z => nomatch z), (fun _ _ _ z => nomatch z)⟩)
theorem OrdAt.tg {C T : Addr} {q : Str} {H H' : Hp} {x : Addr} {ls : List Str} {ps : List Pr} (h : OrdAt C H x ls ps) (t : Tg T q H H') (t0 : TabS H T q) : OrdAt C H' x ls ps :=
  h.kp t.kp (fun a m u e => by
    obtain ⟨tb, e2, _⟩ := t0
    rw [List.mem_singleton.mp m, e2] at e
    cases e
    exact ⟨(fun _ z => nomatch z), (fun _ _ z => nomatch z), (fun _ _ _ z => nomatch z)⟩)
theorem TabS.new {T p : Addr} {q : Str} {H : Hp} {o : HO} (t : TabS H T q) (n : H p = none) : TabS (upd H p o) T q := t.ext fun _ _ e => old_upd n e
theorem TabS.mut {T p : Addr} {q : Str} {H : Hp} {o : HO} {ys : List V} (t : TabS H T q) (n : H p = some (.lst ys)) : TabS (upd H p o) T q := by
  obtain ⟨tb, h1, h2, h3⟩ := t
  refine ⟨tb, oth_upd (ne_of h1 n (fun z => nomatch z)) h1, h2, fun pos cv hc => ?_⟩
  obtain ⟨c, e, h⟩ := h3 pos cv hc
  exact ⟨c, e, oth_upd (ne_of h n (fun z => nomatch z)) h⟩
theorem Tg.refl {T : Addr} {q : Str} {H : Hp} (t : TabS H T q) : Tg T q H H := ⟨Kp.refl H, t, id⟩
theorem Tg.trans {T : Addr} {q : Str} {H H1 H2 : Hp} (a : Tg T q H H1) (b : Tg T q H1 H2) : Tg T q H H2 := ⟨a.kp.trans b.kp, b.tab, fun n => b.nt (a.nt n)⟩
theorem Tg.new {T p : Addr} {q : Str} {H H' : Hp} {o : HO} (a : Tg T q H H') (n : H' p = none) (no : noT o) : Tg T q H (upd H' p o) := ⟨a.kp.new n, TabS.new a.tab n, fun z => (a.nt z).upd no⟩
theorem Tg.at {T : Addr} {q : Str} {H H' : Hp} (a : Tg T q H H') (t : TabS H T q) {b : Addr} {o : HO} (e : H b = some o) (n : ∀ ps, o ≠ .tbl ps) : H' b = some o := kp_extN a.kp t b o e n
theorem Tg.none {T : Addr} {q : Str} {H H' : Hp} (a : Tg T q H H') (t : TabS H T q) {b : Addr} (e : H' b = none) : H b = none := by
  cases q2 : H b with
  | none => rfl
  | some o =>
    by_cases z : b = T
    · obtain ⟨tb, e2, _⟩ := a.tab
      rw [z, e2] at e
      exact nomatch e
    · rw [a.kp b o q2 (fun m => z (List.mem_singleton.mp m))] at e
      exact nomatch e
/-! ### what is promised -/
def spWant (C : Addr) : Sp := fun vs H Q _ => ∃ (x : Addr) (z : Str) (ls : List Str) (ps : List Pr), vs = [.ref x, .str z] ∧ OrdAt C H x ls ps ∧ z ∈ ls ∧ Q .non H
def spHas (C : Addr) : Sp := fun vs H Q _ => ∃ (x : Addr) (a b : Str) (ls : List Str) (ps : List Pr), vs = [.ref x, .str a, .str b] ∧ OrdAt C H x ls ps ∧ OrdOk ls ps ∧ a ∈ ls ∧ b ∈ ls ∧ NoT H ∧ Q (.bl (decide ((a, b) ∈ ps))) H
def spAfter (C : Addr) : Sp := fun vs H Q _ => ∃ (x : Addr) (z : Str) (ls : List Str) (ps : List Pr), vs = [.ref x, .str z] ∧ OrdAt C H x ls ps ∧ OrdOk ls ps ∧ ∀ p, H p = none → Q (.ref p) (upd H p (.lst ((afterP ps z).map V.str)))
def spBehind (C : Addr) : Sp := fun vs H Q _ => ∃ (x : Addr) (a : Str) (ls : List Str) (ps : List Pr), vs = [.ref x, .str a] ∧ OrdAt C H x ls ps ∧ OrdOk ls ps ∧ a ∈ ls ∧ NoT H ∧
  ∀ (p : Addr) (fs : List Str), H p = none → (∀ z, z ∈ fs ↔ Rch ps a z) → Q (.ref p) (upd H p (.lst ((ls.filter fun z => decide (z ∈ fs)).map V.str)))
def spLeads (C : Addr) : Sp := fun vs H Q _ => ∃ (x : Addr) (a b : Str) (ls : List Str) (ps : List Pr), vs = [.ref x, .str a, .str b] ∧ OrdAt C H x ls ps ∧ OrdOk ls ps ∧ a ∈ ls ∧ b ∈ ls ∧ NoT H ∧ ∀ k : Bool, (k = true ↔ Rch ps a b) → Q (.bl k) H
def spWith (C T : Addr) (q : Str) : Sp := fun vs H Q _ => ∃ (x : Addr) (a b : Str) (ls : List Str) (ps : List Pr), vs = [.ref x, .str a, .str b] ∧ OrdAt C H x ls ps ∧ OrdOk ls ps ∧ a ∈ ls ∧ b ∈ ls ∧ a ≠ b ∧ ¬ Rch ps b a ∧ NoT H ∧ TabS H T q ∧
  ∀ (H' : Hp) (t : Addr) (rs : List V) (qs : List Pr), Tg T q H H' → H' t = some (.tup rs) → Prs H' rs qs → OrdOk ls qs → (∀ z, z ∈ qs ↔ z ∈ ps ∨ z = (a, b)) → Q (.ref t) H'
def spAdded (C T : Addr) (q : Str) : Sp := fun vs H Q _ => ∃ (x : Addr) (a b : Str) (ls : List Str) (ps : List Pr), vs = [.ref x, .str a, .str b] ∧ OrdAt C H x ls ps ∧ OrdOk ls ps ∧ a ∈ ls ∧ b ∈ ls ∧ a ≠ b ∧ ¬ Rch ps b a ∧ NoT H ∧ TabS H T q ∧
  ∀ (H' : Hp) (y : Addr) (qs : List Pr), Tg T q H H' → OrdAt C H' y ls qs → OrdOk ls qs → (∀ z, z ∈ qs ↔ z ∈ ps ∨ z = (a, b)) → H y = none → Q (.ref y) H'
/-- of the default pairs, none -/
def spInit (K : PySem.W.Frag) (C : Addr) : Sp := fun vs H Q _ => ∃ (x dx l d : Addr) (ls : List Str), vs = [.ref x, .ref l, .ref d] ∧ H x = some (.ins C dx []) ∧ (SqL K H l (ls.map V.str) ∨ LkAt H l ls) ∧ (∀ H, SqT K H d []) ∧
  ∀ H', Kp [x] H H' → (NoT H → NoT H') → OrdAt C H' x ls [] → Q .non H'
theorem inV_strs' (z : Str) (ls : List Str) : inV (.str z) (ls.map V.str) = decide (z ∈ ls) := inV_strs z ls
end TB
/-! Steps at instances and calls; the built-ins' names. -/
namespace TB
open PySem PySem.Spec PyProof.Rows L2 LamX
theorem fm_congr {α β : Type} {f g : α → Option β} : ∀ {l : List α}, (∀ x ∈ l, f x = g x) → l.filterMap f = l.filterMap g
  | [], _ => rfl
  | x :: l, h => by rw [List.filterMap_cons, List.filterMap_cons, h x List.mem_cons_self, fm_congr fun y hy => h y (List.mem_cons_of_mem _ hy)]
structure BltA (mg : Str → Option Value) : Prop where
  b_len : mg "len" = none
  b_max : mg "max" = none
  b_min : mg "min" = none
  b_abs : mg "abs" = none
  b_divmod : mg "divmod" = none
  b_range : mg "range" = none
  b_enumerate : mg "enumerate" = none
  b_int : mg "int" = none
  b_list : mg "list" = none
  b_repr : mg "repr" = none
  b_isinstance : mg "isinstance" = none
  b_str : mg "str" = none
  b_tuple : mg "tuple" = none
  b_sorted : mg "sorted" = none
  b_all : mg "all" = none
  b_any : mg "any" = none
  b_zip : mg "zip" = none
  b_dict : mg "dict" = none
  b_sum : mg "sum" = none
  b_bool : mg "bool" = none
abbrev FnP (K : PySem.W.Frag) (x : Str) (st : Stmt) (f : Addr) (fd : FuncData) : Prop := FunD K x x (defArgs st) (defBody st) (defScope st) [] [] f fd
abbrev FnM (K : PySem.W.Frag) (x qual : Str) (st : Stmt) (dvs : List V) (f : Addr) (fd : FuncData) : Prop := FunD K x qual (defArgs st) (defBody st) (defScope st) dvs [] f fd
theorem hu65 {k : Nat} {A : Around} (h : Room k A) : A.units + 65 < cLine := by
  have := h.un
  omega
section
variable {σ : L2.St} {H : Hp} {D : Ends} {Q : VK} {ta tv : TE} {tl : TA} {K : PySem.W.Frag} {C x dx : Addr} {fs : List (Str × V)} {f m : Str} {v : V} {sp : Sp} {dvs : List V} {E : XK}
theorem st_fld (h : ta σ H fun x H1 => ∃ a C dx fs v, x = .ref a ∧ H1 a = some (.ins C dx fs) ∧ Cls K C ∧ NoAttr K C f ∧ fs.lookup f = some v ∧ Q v H1) : tFld K ta f σ H Q := h
theorem fl_at (h : H x = some (.ins C dx fs)) (c : Cls K C) (n : NoAttr K C f) (l : fs.lookup f = some v) (q : Q v H) : ∃ a C dx fs v, V.ref x = .ref a ∧ H a = some (.ins C dx fs) ∧ Cls K C ∧ NoAttr K C f ∧ fs.lookup f = some v ∧ Q v H := ⟨x, C, dx, fs, v, rfl, h, c, n, l, q⟩
theorem st_mt (h : ta σ H fun x H1 => ∃ a dx fs, x = .ref a ∧ H1 a = some (.ins C dx fs) ∧ fs.lookup m = none ∧ tl σ H1 fun vs H2 => sp (x :: (vs ++ dvs)) H2 Q E) : tMeth C m sp dvs E ta tl σ H Q := h
theorem st_mk (h : tl σ H fun vs H1 => ∀ x dx, H1 x = none → H1 dx = none → dx ≠ x → sp (.ref x :: (vs ++ dvs)) (upd (upd H1 dx (.own x)) x (.ins C dx [])) (fun v H2 => v = .non ∧ Q (.ref x) H2) E) : tMake C sp dvs E tl σ H Q := h
theorem st_sfld (h : tv σ H fun y H1 => ta σ H1 fun x H2 => ∃ a C dx fs, x = .ref a ∧ H2 a = some (.ins C dx fs) ∧ Cls K C ∧ NoAttr K C f ∧ fs.length < 1000 ∧ D.nx σ (upd H2 a (.ins C dx (putF f y fs)))) : sFld K ta tv f D σ H := h
theorem st_bm0 {T : String} {r : V → List V → Hp → VK → Prop} (h : ta σ H fun x H1 => tyV K T x H1 ∧ r x [] H1 Q) : tBM0 K T r ta σ H Q := h
theorem st_bmT {r : V → List V → Hp → VK → Prop} (h : ta σ H fun x H1 => (∃ a ls, x = .ref a ∧ LkAt H1 a ls) ∧ tl σ H1 fun xs H2 => r x xs H2 Q) : tBMT r ta tl σ H Q := h
theorem st_itu {R : It → Hp → Prop} (h : ta σ H fun x H1 => ∃ a, x = .ref a ∧ (∃ xs, SqT K H1 a xs) ∧ R (Itt K a) H1) : iTup K ta σ H R := h
theorem st_ninT {a : Addr} {z : Str} {ls : List Str} (hs : SqT K H a (ls.map V.str)) (h : Q (.bl (!decide (z ∈ ls))) H) : rIn K true (.str z) (.ref a) H Q :=
  ⟨a, _, rfl, Or.inr hs, rfl, by simp [flatV], by
    show Q (.bl (!inV (.str z) (ls.map V.str))) H
    rw [inV_strs]
    exact h⟩
theorem st_inS {a : Addr} {z : Str} {ls : List Str} (hs : SqL K H a (ls.map V.str) ∨ SqT K H a (ls.map V.str)) (h : Q (.bl (decide (z ∈ ls))) H) : rIn K false (.str z) (.ref a) H Q :=
  ⟨a, _, rfl, hs, rfl, by simp [flatV], by
    show Q (.bl (inV (.str z) (ls.map V.str))) H
    rw [inV_strs]
    exact h⟩
theorem st_ninS {a : Addr} {z : Str} {ls : List Str} (hs : SqL K H a (ls.map V.str) ∨ SqT K H a (ls.map V.str)) (h : Q (.bl (!decide (z ∈ ls))) H) : rIn K true (.str z) (.ref a) H Q :=
  ⟨a, _, rfl, hs, rfl, by simp [flatV], by
    show Q (.bl (!inV (.str z) (ls.map V.str))) H
    rw [inV_strs]
    exact h⟩
theorem st_inP {t q : Addr} {p : Pr} {rs : List V} {ps : List Pr} (h1 : H t = some (.tup [.str p.1, .str p.2])) (h2 : H q = some (.tup rs) ∨ H q = some (.lst rs)) (h3 : Prs H rs ps) (n1 : NmP p) (n2 : ∀ z ∈ ps, NmP z) (h : Q (.bl (decide (p ∈ ps))) H) : rInP (.ref t) (.ref q) H Q := ⟨t, q, p, rs, ps, rfl, rfl, h1, h2, h3, n1, n2, h⟩
end
end TB
/-! The search of what is behind. -/
namespace TB
open PySem PySem.Spec PyProof.Rows L2 LamX
/-- a def by its body, its code object told -/
theorem okC {P : Program} {w : World} {K : PySem.W.Frag} {mg : Str → Option Value} {base : Heap} {x qual : Str} {params : Arguments} {body : List Stmt} {scope : Scope} {dvs : List V} {kws : List (Str × V)} {f : Addr} {fd : FuncData} {CX : CXT} {N ps : List Str} {k : Nat} {sp : Sp} {c : Addr}
    (F : FunD K x qual params body scope dvs kws f fd) (hc : fd.code = .ref c) (S : FnScope N ps scope) (len : ∀ vs H Q E, sp vs H Q E → vs.length = ps.length)
    (hbody : ∀ (A : Around) (outer : List Env) (s : Shared) (H : Hp) (vs : List V) (Q : VK) (E : XK), Room k (A.deeper (envOfC qual scope s.heap.objs.size f (.ref c))) → sp vs H Q E →
      ∃ t, PSs (cxOf CX P w K mg base N qual scope f (.ref c) A outer s H E) body t ∧ t { nx := fun _ H' => Q .non H', rt := Q } (start N vs) H) : FnOk P w K mg base CX (k + 1) f fd ps sp := by
  obtain ⟨oc, od, dV, kV, doc, pm, an, cdv, ct, osl, rfl, lk, hcd, _, _⟩ := F.ex
  obtain rfl : cdv = .ref c := hc
  exact fn_of lk hcd S len hbody
structure BInv (ls : List Str) (ps : List Pr) (a : Str) (fs lf : List Str) : Prop where
  nd : fs.Nodup
  sub : ∀ z ∈ fs, Rch ps a z
  ins : ∀ z ∈ fs, z ∈ ls
  lft : ∀ z ∈ lf, z = a ∨ z ∈ fs
  cl : ∀ z, z = a ∨ z ∈ fs → z ∈ lf ∨ ∀ c, (z, c) ∈ ps → c ∈ fs
theorem BInv.init {ls : List Str} {ps : List Pr} {a : Str} : BInv ls ps a [] [a] :=
  ⟨List.nodup_nil, (fun _ z => nomatch z), (fun _ z => nomatch z), fun z h => Or.inl (List.mem_singleton.mp h), fun z h => h.elim (fun e => Or.inl (List.mem_singleton.mpr e)) (fun m => nomatch m)⟩
def moreP (ps : List Pr) (fs : List Str) (l : Str) : List Str := (afterP ps l).filter fun z => !decide (z ∈ fs)
theorem mem_moreP {ps : List Pr} {fs : List Str} {l z : Str} : z ∈ moreP ps fs l ↔ (l, z) ∈ ps ∧ z ∉ fs := by
  unfold moreP
  rw [List.mem_filter, mem_afterP]
  simp
theorem BInv.step {ls : List Str} {ps : List Pr} {a l : Str} {fs lf : List Str} (ok : OrdOk ls ps) (b : BInv ls ps a fs (lf ++ [l])) : BInv ls ps a (fs ++ moreP ps fs l) (lf ++ moreP ps fs l) := by
  have hl : l = a ∨ l ∈ fs := b.lft l (List.mem_append_right _ (List.mem_singleton.mpr rfl))
  have rl : ∀ z, (l, z) ∈ ps → Rch ps a z := by
    intro z hz
    rcases hl with e | m
    · rw [e] at hz
      exact .one hz
    · exact .step (b.sub l m) hz
  refine ⟨?_, ?_, ?_, ?_, ?_⟩
  · refine List.nodup_append.mpr ⟨b.nd, (nodup_afterP ok.pnd).filter _, ?_⟩
    intro u hu v hv e
    exact (mem_moreP.mp hv).2 (e ▸ hu)
  · intro z hz
    rcases List.mem_append.mp hz with m | m
    · exact b.sub z m
    · exact rl z (mem_moreP.mp m).1
  · intro z hz
    rcases List.mem_append.mp hz with m | m
    · exact b.ins z m
    · exact (ok.mem _ (mem_moreP.mp m).1).2
  · intro z hz
    rcases List.mem_append.mp hz with m | m
    · rcases b.lft z (List.mem_append_left _ m) with e | e
      · exact Or.inl e
      · exact Or.inr (List.mem_append_left _ e)
    · exact Or.inr (List.mem_append_right _ m)
  · intro z hz
    by_cases hzl : z = l
    · refine Or.inr (fun c hc => ?_)
      rw [hzl] at hc
      by_cases m : c ∈ fs
      · exact List.mem_append_left _ m
      · exact List.mem_append_right _ (mem_moreP.mpr ⟨hc, m⟩)
    · by_cases m : z = a ∨ z ∈ fs
      · rcases b.cl z m with e | e
        · rcases List.mem_append.mp e with e2 | e2
          · exact Or.inl (List.mem_append_left _ e2)
          · exact absurd (List.mem_singleton.mp e2) hzl
        · exact Or.inr (fun c hc => List.mem_append_left _ (e c hc))
      · refine Or.inl (List.mem_append_right _ ?_)
        rcases hz with e | e
        · exact absurd (Or.inl e) m
        · rcases List.mem_append.mp e with e2 | e2
          · exact absurd (Or.inr e2) m
          · exact e2
theorem BInv.done {ls : List Str} {ps : List Pr} {a : Str} {fs : List Str} (b : BInv ls ps a fs []) (z : Str) : z ∈ fs ↔ Rch ps a z := by
  refine ⟨b.sub z, fun h => ?_⟩
  induction h with
  | one m => exact (b.cl _ (Or.inl rfl)).elim (fun e => nomatch e) (fun e => e _ m)
  | step _ m ih => exact (b.cl _ (Or.inr ih)).elim (fun e => nomatch e) (fun e => e _ m)
theorem BInv.less {ls : List Str} {ps : List Pr} {a l : Str} {fs lf : List Str} (b : BInv ls ps a (fs ++ moreP ps fs l) (lf ++ moreP ps fs l)) :
    2 * (ls.length - (fs ++ moreP ps fs l).length) + (lf ++ moreP ps fs l).length < 2 * (ls.length - fs.length) + (lf ++ [l]).length := by
  have h1 := nodup_le b.nd b.ins
  rw [List.length_append] at h1 ⊢
  rw [List.length_append, List.length_append, List.length_singleton]
  omega
theorem sh_strs {ws : List Str} (h : ∀ z ∈ ws, Nm z) : SeqAt.shaped (dStrs ws) = true := by
  have h1 : ∀ ws : List Str, (∀ z ∈ ws, Nm z) → PyData.canLayAll0 (ws.map PyData.str) = true := by
    intro ws
    induction ws with
    | nil =>
      intro _
      simp [PyData.canLayAll0]
    | cons z r ih =>
      intro h
      simp [PyData.canLayAll0, PyData.canLay0, strOk_nm (h z List.mem_cons_self), ih fun y hy => h y (List.mem_cons_of_mem _ hy)]
  have h2 : ∀ ws : List Str, PyData.depthAll (ws.map PyData.str) ≤ 1 := by
    intro ws
    induction ws with
    | nil => simp [PyData.depthAll]
    | cons z r ih =>
      simp only [List.map_cons, PyData.depthAll, PyData.depth]
      omega
  have h3 := h2 ws
  show (PyData.canLay0 (.list (ws.map PyData.str)) && decide (PyData.depth (.list (ws.map PyData.str)) ≤ 64)) = true
  rw [Bool.and_eq_true]
  refine ⟨by simp only [PyData.canLay0]; exact h1 ws h, decide_eq_true ?_⟩
  simp only [PyData.depth]
  omega
theorem eqv_nil (ws : List Str) : PyData.eqv (dStrs ws) (dStrs []) = decide (ws = []) := by
  cases ws with
  | nil => simp [dStrs, PyData.eqv, PyData.eqvAll]
  | cons z r => simp [dStrs, PyData.eqv, PyData.eqvAll]
theorem st_neNil {K : PySem.W.Frag} {H : Hp} {Q : VK} {a b : Addr} {ws : List Str} (h : ∀ z ∈ ws, Nm z) (h1 : H a = some (.lst (ws.map V.str))) (h2 : H b = some (.lst [])) (q : Q (.bl (!decide (ws = []))) H) : rNeD K (.ref a) (.ref b) H Q :=
  ⟨dStrs ws, dStrs [], dp_strs (sqL_of h1), dp_strs (ws := []) (sqL_of h2), sh_strs h, sh_strs (fun _ z => nomatch z), by rw [eqv_nil]; exact q⟩
def strF (p : Str → Bool) : V → Option V
  | .str z => if p z = true then some (.str z) else none
  | _ => none
theorem fm_filter (p : Str → Bool) : ∀ ls : List Str, (ls.map V.str).filterMap (strF p) = (ls.filter p).map V.str
  | [] => rfl
  | z :: r => by
    rw [List.map_cons, List.filterMap_cons, fm_filter p r]
    cases h : p z with
    | true =>
      have e : strF p (.str z) = some (.str z) := if_pos h
      rw [e, List.filter_cons_of_pos h, List.map_cons]
    | false =>
      have e : strF p (.str z) = none := if_neg (by rw [h]; decide)
      rw [e, List.filter_cons_of_neg (by rw [h]; decide)]
theorem strF_yes {p : Str → Bool} {z : Str} (h : p z = true) : strF p (.str z) = some (.str z) := if_pos h
theorem strF_no {p : Str → Bool} {z : Str} (h : p z = false) : strF p (.str z) = none := if_neg (by rw [h]; decide)
end TB
namespace TB
open PySem PySem.Spec PyProof.Rows L2 LamX NdefX
theorem st_sortLam {σ : L2.St} {H : Hp} {Q : VK} {K : PySem.W.Frag} {P : Addr} {q : Str} {N : List Str} {js : List Nat} {tb : TE} {t : TA} (h : t σ H fun vs H1 => ∃ (a : Addr) (xs : List V) (kf : V → Int × Int), vs = [.ref a] ∧ SqT K H1 a xs ∧ (∀ x ∈ xs, ∃ b, x = V.ref b) ∧ TabS H1 P q ∧
  (∀ x ∈ xs, ∀ H', ExtN H1 H' → ∀ Q' : VK, (∀ p, H' p = none → Q' (.ref p) (upd H' p (.tup [.int (kf x).1, .int (kf x).2]))) → tb (startF N [x] (js.map (slotAt σ))) H' Q') ∧
  ∀ (ys : List V) (D : Addr) (H' : Hp), ys.Perm xs → SrtO.Srtd (ltP kf) ys → Tg P q H1 H' → H1 D = none → H' D = some (.lst ys) → Q (.ref D) H') : tSortLam K P q N js tb t σ H Q := h
theorem st_catP {H : Hp} {Q : VK} {K : PySem.W.Frag} {a b : Addr} {xs ys : List V} (h1 : H a = some (.tup xs)) (h2 : H b = some (.tup ys)) (n : xs.length + ys.length ≤ sizeLine) (ny : ys ≠ [])
    (k : ∀ p H', (∀ c o, H c = some o → H' c = some o) → (NoT H → NoT H') → H' p = some (.tup (xs ++ ys)) → Q (.ref p) H') : rCatA K (.ref a) (.ref b) H Q := by
  refine ⟨a, b, xs, ys, rfl, rfl, sqT_of h1, sqT_of h2, n, fun e => ?_, fun _ e => absurd e ny, fun _ _ p np => ?_⟩
  · refine k b H (fun _ _ z => z) id ?_
    rw [e]
    exact h2
  · exact k p _ (fun c o z => old_upd np z) (fun z => z.upd trivial) upd_same
theorem prs_map {H : Hp} {g : V → Pr} : ∀ {ys : List V}, (∀ y ∈ ys, ∃ t, y = .ref t ∧ H t = some (.tup [.str (g y).1, .str (g y).2])) → Prs H ys (ys.map g)
  | [], _ => .nil
  | y :: r, h => .cons (h y List.mem_cons_self) (prs_map fun z hz => h z (List.mem_cons_of_mem _ hz))
/-- the new list of pairs -/
theorem OrdOk.add {ls : List Str} {ps qs : List Pr} {a b : Str} (h : OrdOk ls ps) (ha : a ∈ ls) (hb : b ∈ ls) (hn : (a, b) ∉ ps) (pm : qs.Perm (ps ++ [(a, b)])) (sr : SortP ls qs) : OrdOk ls qs ∧ ∀ z, z ∈ qs ↔ z ∈ ps ∨ z = (a, b) := by
  have mm : ∀ z, z ∈ qs ↔ z ∈ ps ∨ z = (a, b) := by
    intro z
    rw [pm.mem_iff, List.mem_append, List.mem_singleton]
  refine ⟨⟨h.nd, h.nm, h.len, fun p hp => ?_, ?_, sr⟩, mm⟩
  · rcases (mm p).mp hp with e | e
    · exact h.mem p e
    · rw [e]
      exact ⟨ha, hb⟩
  · refine pm.nodup_iff.mpr (List.nodup_append.mpr ⟨h.pnd, by simp, fun u hu v hv e => hn ?_⟩)
    rw [List.mem_singleton.mp hv] at e
    rw [← e]
    exact hu
end TB
namespace TB
open PySem PySem.Spec PyProof.Rows L2 LamX NdefX
theorem st_tupF {H : Hp} {Q : VK} {K : PySem.W.Frag} {a : Addr} {ls : List Str} (h : SqL K H a (ls.map V.str) ∨ LkAt H a ls) (k : ∀ (l : Addr) (H' : Hp), Same H H' → (NoT H → NoT H') → LkAt H' l ls → Q (.ref l) H') : rTupF K [.ref a] H Q := by
  rcases h with h | h
  · exact ⟨a, ls, rfl, Or.inl ⟨h, fun l o nl d => k l _ (fun _ _ e => old_upd nl e) (fun z => z.upd trivial) ⟨o, d, upd_same⟩⟩⟩
  · exact ⟨a, ls, rfl, Or.inr ⟨h, k a H (fun _ _ e => e) id h⟩⟩
theorem TabS.mutI {T p C dx : Addr} {q : Str} {H : Hp} {o : HO} {fs : List (Str × V)} (t : TabS H T q) (n : H p = some (.ins C dx fs)) : TabS (upd H p o) T q := by
  obtain ⟨tb, h1, h2, h3⟩ := t
  refine ⟨tb, oth_upd (ne_of h1 n (fun z => nomatch z)) h1, h2, fun pos cv hc => ?_⟩
  obtain ⟨c, e, h⟩ := h3 pos cv hc
  exact ⟨c, e, oth_upd (ne_of h n (fun z => nomatch z)) h⟩
end TB
/-! Rules for drawn orders. -/
namespace TB
open PySem PySem.Spec PyProof.Rows L2 LamX NdefX
section
variable {X : Cx} {pos : Pos}
theorem kUnl (K : PySem.W.Frag) (n : Nat) {tg : Expr} {t : TGs} (h : PG X tg (gUnl X.K n t)) (hK : X.K = K := by rfl) : PG X tg (gUnl K n t) := by subst hK; exact h
theorem cr_sortedK (K : PySem.W.Frag) (hK : X.K = K := by rfl) : CallR X (.builtin "sorted") (rSortedI K) := by subst hK; exact cr_sortedI
theorem cr_sortedSK (K : PySem.W.Frag) (hK : X.K = K := by rfl) : CallR X (.builtin "sorted") (rSortedS K) := by subst hK; exact cr_sortedS
theorem cr_allK (K : PySem.W.Frag) (hc : X.calm = true := by rfl) (hK : X.K = K := by rfl) : CallR X (.builtin "all") (rAll K) := by subst hK; exact cr_all hc
end
section
variable {σ : L2.St} {H : Hp} {Q : VK} {K : PySem.W.Frag}
theorem st_gunl {n : Nat} {tg : TGs} {a : Addr} {xs : List V} {R : L2.St → Hp → Prop} (hs : SqL K H a xs) (hn : xs.length = n) (h : tg xs σ H R) : gUnl K n tg (.ref a) σ H R := ⟨a, xs, rfl, hs, hn, h⟩
/-- two numbers sorted -/
theorem st_sort2 {a : Addr} {i j : Int} (h : H a = some (.lst [.int i, .int j])) (k : ∀ (lo hi : Int) (p : Addr), lo ≤ hi → (lo = i ∧ hi = j ∨ lo = j ∧ hi = i) → H p = none → Q (.ref p) (upd H p (.lst [.int lo, .int hi]))) : rSortedI K [.ref a] H Q := by
  refine ⟨a, [i, j], rfl, sqL_of h, fun ns p pm sr np => ?_⟩
  match ns, pm.length_eq, pm, sr with
  | [x, y], _, pm, sr =>
    have h1 : x ≤ y := (List.pairwise_cons.mp sr).1 y (List.mem_singleton.mpr rfl)
    refine k x y p h1 ?_ np
    have hx : x ∈ [i, j] := pm.mem_iff.mp List.mem_cons_self
    have hy : y ∈ [i, j] := pm.mem_iff.mp (List.mem_cons_of_mem _ List.mem_cons_self)
    have hi : i ∈ [x, y] := pm.mem_iff.mpr List.mem_cons_self
    have hj : j ∈ [x, y] := pm.mem_iff.mpr (List.mem_cons_of_mem _ List.mem_cons_self)
    simp only [List.mem_cons, List.not_mem_nil, or_false] at hx hy hi hj
    omega
end
theorem ixS_get {ls : List Str} {z : Str} {i : Nat} (nd : ls.Nodup) (h : ls[i]? = some z) : ixS ls z = i := by
  have h1 := ixS_at (List.mem_of_getElem? h)
  obtain ⟨hi, e⟩ := List.getElem?_eq_some_iff.mp h
  obtain ⟨hj, e2⟩ := List.getElem?_eq_some_iff.mp h1.1
  rcases Nat.lt_trichotomy (ixS ls z) i with c | c | c
  · exact absurd (e2.trans e.symm) (List.pairwise_iff_getElem.mp nd _ _ hj hi c)
  · exact c
  · exact absurd (e.trans e2.symm) (List.pairwise_iff_getElem.mp nd _ _ hi hj c)
end TB
namespace TB
open PySem PySem.Spec PyProof.Rows L2 LamX NdefX
theorem Tg.own {T p : Addr} {q : Str} {H H' : Hp} {ys zs : List V} (a : Tg T q H H') (n : H p = Option.none) (l : H' p = some (.lst ys)) : Tg T q H (upd H' p (.lst zs)) := ⟨a.kp.own n, TB.TabS.mut a.tab l, fun z => (a.nt z).lst⟩
theorem Tg.newL {T p : Addr} {q : Str} {H H' : Hp} {xs : List V} (a : Tg T q H H') (n : H' p = Option.none) : Tg T q H (upd H' p (.lst xs)) := a.new n trivial
theorem Tg.newT {T p : Addr} {q : Str} {H H' : Hp} {xs : List V} (a : Tg T q H H') (n : H' p = Option.none) : Tg T q H (upd H' p (.tup xs)) := a.new n trivial
theorem Tg.of {T : Addr} {q : Str} {H H' : Hp} (s : Same H H') (t : TabS H T q) (n : NoT H') : Tg T q H H' := ⟨fun b o e _ => s b o e, t.ext s, fun _ => n⟩
theorem Tg.sqL {K : PySem.W.Frag} {T a : Addr} {q : Str} {H H' : Hp} {xs : List V} (t : Tg T q H H') (n : a ≠ T) (h : SqL K H a xs) : SqL K H' a xs := t.kp.sqL (by simpa using n) h
theorem Prs.tg {T : Addr} {q : Str} {H H' : Hp} {rs : List V} {ps : List Pr} (h : Prs H rs ps) (t : Tg T q H H') (t0 : TabS H T q) : Prs H' rs ps := h.keep fun b xs e => t.at t0 e (fun ps => by simp)
end TB
namespace TB
open PySem PySem.Spec PyProof.Rows L2 LamX NdefX
section
variable {K : PySem.W.Frag} {a : Addr} {xs : List V} {g g1 : TG} {tt tt1 : TT} {wi1 : TI} {te : TE} {vs vs1 : List Nat} {σ : L2.St} {H1 : Hp} {Q : VK}
/-- the inner walk of a comprehension of two clauses -/
def InG (J1 : It) (g1 : TG) (tt1 : TT) (te : TE) (vs1 : List Nat) (D : Addr) (σ2 : L2.St) (Nx : Hp → Prop) (H4 : Hp) : Prop := ∃ W1 : Nat → Nat → Hp → Prop, (∃ m, W1 0 m H4) ∧ ∀ j k H, W1 j k H →
  (J1.stop j H ∧ Nx H) ∨ (J1.go j H ∧ ∃ Nx1 : Hp → Prop, (∀ H', Nx1 H' → ∃ k', k' < k ∧ W1 (j + 1) k' H') ∧ ∀ x H', J1.yld j H x H' → g1 x (wipe σ2 vs1) H' fun σ3 H5 => wipe σ3 vs1 = wipe σ2 vs1 ∧ tt1 σ3 H5 fun b H6 =>
    if b = true then te σ3 H6 fun y H7 => ∃ acc, H7 D = some (.lst acc) ∧ acc.length < sizeLine ∧ Nx1 (upd H7 D (.lst (acc ++ [y]))) else Nx1 H6)
theorem in_walk {J1 : It} {ys : List V} {ok1 : Hp → Prop} {D : Addr} {σ2 : L2.St} {Nx : Hp → Prop} {H4 : Hp} (w : Wk J1 ys ok1) (Pw : Nat → Hp → Prop) (h0 : Pw 0 H4) (hk : ∀ j H, Pw j H → ok1 H)
    (hs : ∀ (j : Nat) (y : V) (H : Hp), ys[j]? = some y → Pw j H → g1 y (wipe σ2 vs1) H fun σ3 H5 => wipe σ3 vs1 = wipe σ2 vs1 ∧ tt1 σ3 H5 fun b H6 => if b = true then te σ3 H6 fun v H7 => ∃ acc, H7 D = some (.lst acc) ∧ acc.length < sizeLine ∧ Pw (j + 1) (upd H7 D (.lst (acc ++ [v]))) else Pw (j + 1) H6)
    (hd : ∀ H, Pw ys.length H → Nx H) : InG J1 g1 tt1 te vs1 D σ2 Nx H4 := by
  refine ⟨fun j k H => k = ys.length - j ∧ j ≤ ys.length ∧ Pw j H, ⟨ys.length, by simp, Nat.zero_le _, h0⟩, ?_⟩
  rintro j k H ⟨rfl, hj, p⟩
  by_cases lt : j < ys.length
  · refine Or.inr ⟨w.go j H (hk j H p) lt, Pw (j + 1), fun H' p' => ⟨ys.length - (j + 1), by omega, rfl, lt, p'⟩, fun x H' y => ?_⟩
    obtain ⟨rfl, e⟩ := w.yld j H x H' (hk j H p) lt y
    exact hs j x _ e p
  · obtain rfl : j = ys.length := by omega
    exact Or.inl ⟨w.stop _ H (hk _ H p) (Nat.le_refl _), hd H p⟩
def LcG2 (J : It) (g : TG) (tt : TT) (wi1 : TI) (g1 : TG) (tt1 : TT) (te : TE) (vs vs1 : List Nat) (σ : L2.St) (Q : VK) (H1 : Hp) : Prop := ∀ D, H1 D = none → ∃ W : Nat → Nat → Hp → Prop, (∃ m, W 0 m (upd H1 D (.lst []))) ∧ ∀ i m H, W i m H →
  (J.stop i H ∧ Q (.ref D) H) ∨ (J.go i H ∧ ∃ Nx : Hp → Prop, (∀ H', Nx H' → ∃ m', m' < m ∧ W (i + 1) m' H') ∧ ∀ x H', J.yld i H x H' → g x (wipe σ vs) H' fun σ2 H2 => wipe σ2 vs = wipe σ vs ∧ tt σ2 H2 fun b H3 =>
    if b = true then wi1 σ2 H3 fun J1 H4 => InG J1 g1 tt1 te vs1 D σ2 Nx H4 else Nx H3)
/-- [e for i, x in enumerate(xs) for y in ..] -/
theorem lc2_en (Pv : Addr → Nat → Hp → Prop) (h0 : ∀ D, H1 D = none → Pv D 0 (upd H1 D (.lst []))) (hk : ∀ D i H, Pv D i H → SqL K H a xs)
    (hs : ∀ (D : Addr) (i : Nat) (x : V) (t : Addr) (H : Hp), H1 D = none → xs[i]? = some x → Pv D i H → H t = none → g (.ref t) (wipe σ vs) (upd H t (.tup [.int (i : Int), x])) fun σ2 H2 => wipe σ2 vs = wipe σ vs ∧ tt σ2 H2 fun b H3 =>
      if b = true then wi1 σ2 H3 fun J1 H4 => InG J1 g1 tt1 te vs1 D σ2 (Pv D (i + 1)) H4 else Pv D (i + 1) H3)
    (hd : ∀ D H, H1 D = none → Pv D xs.length H → Q (.ref D) H) : LcG2 (Ite K a) g tt wi1 g1 tt1 te vs vs1 σ Q H1 := by
  intro D nD
  refine ⟨fun i m H => m = xs.length - i ∧ i ≤ xs.length ∧ Pv D i H, ⟨xs.length, by simp, Nat.zero_le _, h0 D nD⟩, ?_⟩
  rintro i m H ⟨rfl, hi, p⟩
  have sq := hk D i H p
  by_cases lt : i < xs.length
  · refine Or.inr ⟨⟨xs, xs[i], sq, List.getElem?_eq_getElem lt⟩, Pv D (i + 1), fun H' p' => ⟨xs.length - (i + 1), by omega, rfl, lt, p'⟩, fun v H' y => ?_⟩
    obtain ⟨t, x, rfl, nt, rfl, e⟩ := y
    exact hs D i x t H nD (e xs sq) p nt
  · obtain rfl : i = xs.length := by omega
    exact Or.inl ⟨⟨xs, sq, Nat.le_refl _⟩, hd D H nD p⟩
theorem st_lc2 {wi : TI} (h : wi σ H1 fun J H1 => LcG2 J g tt wi1 g1 tt1 te vs vs1 σ Q H1) : tLc2 wi g tt wi1 g1 tt1 te vs vs1 σ H1 Q := h
/-! ### piles: tuples of a lock and a life -/
def PileR (H : Hp) : List V → List Str → Prop := Paired fun (x : V) (z : Str) => ∃ (u : Addr) (v : V), x = .ref u ∧ H u = some (.tup [.str z, v])
theorem PileR.len {H : Hp} {rs : List V} {zs : List Str} (h : PileR H rs zs) : rs.length = zs.length := Paired.length h
theorem PileR.keep {H H' : Hp} {rs : List V} {zs : List Str} (h : PileR H rs zs) (k : ∀ b xs, H b = some (.tup xs) → H' b = some (.tup xs)) : PileR H' rs zs := Paired.mapP h fun x p ⟨t, v, e, z⟩ => ⟨t, v, e, k _ _ z⟩
theorem PileR.snoc {H : Hp} {u : Addr} {v : V} {z : Str} : ∀ {rs : List V} {zs : List Str}, PileR H rs zs → H u = some (.tup [.str z, v]) → PileR H (rs ++ [.ref u]) (zs ++ [z])
  | _, _, .nil, h => .cons ⟨u, v, rfl, h⟩ .nil
  | _, _, .cons a r, h => .cons a (PileR.snoc r h)
theorem PileR.take {H : Hp} : ∀ {rs : List V} {zs : List Str} (n : Nat), PileR H rs zs → PileR H (rs.take n) (zs.take n)
  | _, _, 0, _ => .nil
  | _, _, n + 1, .nil => .nil
  | _, _, n + 1, .cons a r => .cons a (PileR.take n r)
/-- the lock of x -/
def lockOf (H : Hp) (x : V) : V := match x with
  | .ref t => match H t with
    | some (.tup [z, _]) => z
    | _ => .non
  | _ => .non
theorem lockOf_eq {H : Hp} {t : Addr} {z v : V} (h : H t = some (.tup [z, v])) : lockOf H (.ref t) = z := by
  show (match H t with
    | some (.tup [z, _]) => z
    | _ => V.non) = z
  rw [h]
theorem PileR.locks {H : Hp} : ∀ {rs : List V} {zs : List Str}, PileR H rs zs → rs.map (lockOf H) = zs.map V.str
  | _, _, .nil => rfl
  | _, _, .cons ⟨t, v, e, z⟩ r => by rw [List.map_cons, List.map_cons, PileR.locks r, e, lockOf_eq z]
theorem PileR.mem {H : Hp} : ∀ {rs : List V} {zs : List Str}, PileR H rs zs → ∀ x ∈ rs, ∃ (t : Addr) (z : Str) (v : V), x = .ref t ∧ H t = some (.tup [.str z, v])
  | _, _, .nil, x, hx => nomatch hx
  | _, _, .cons ⟨t, v, e, z⟩ r, x, hx => by
    rcases List.mem_cons.mp hx with q | q
    · exact ⟨t, _, v, q.trans e, z⟩
    · exact PileR.mem r x q
theorem fm_some {α β : Type} (f : α → β) : ∀ l : List α, l.filterMap (fun x => some (f x)) = l.map f
  | [] => rfl
  | x :: l => by rw [List.filterMap_cons, List.map_cons, fm_some f l]
end
end TB
namespace TB
open PySem PySem.Spec PyProof.Rows L2 LamX NdefX
/-- C(k = v, ..), the names ks -/
structure MakK (P : Program) (w : World) (K : PySem.W.Frag) (mg : Str → Option Value) (base : Heap) (k : Nat) (x : Str) (C : Addr) (sp : Sp) (ks : List Str) (gV : List V → List V → List V) : Prop where
  kex : ∃ (f : Addr) (fd : FuncData) (ps : List Str) (g : List Value → List Value → List Value), Mk K C f ∧ FnOk P w K mg base C8.CX0 k f fd ps sp ∧ mg x = some (.ref C) ∧ KBn K fd ps 1 ks g gV
theorem pe_mkK {X : Cx} {k j : Nat} {x : Str} {C : Addr} {sp : Sp} {ks : List Str} {gV : List V → List V → List V} {kws : List Keyword} {tk : TA} {p pos : Pos} (c : MakK X.prog X.w X.K X.mg X.base k x C sp ks gV) (hr : Room j X.A) (hk : k + 1 ≤ j) (hg : Gl X x) (hkw : PK X kws tk)
    (hall : (backToKw pos (keywordEach kws X.env)).all (·.1.isSome) = true := by rfl) (hks : (backToKw pos (keywordEach kws X.env)).filterMap (·.1) = ks := by rfl) (hdb : (x == ("__debug__" : Str)) = false := by decide)
    (hpl : ((backTo pos (starEach [] X.env)).any (·.1) || (backToKw pos (keywordEach kws X.env)).any (·.1.isNone)) = false := by rfl) : PE X (.Call (.Name x p) [] kws pos) (tMakeK C 0 ks.length sp gV C8.E0 tNil tk) := by
  obtain ⟨f, fd, ps, g, M, F, hm, hb⟩ := c.kex
  exact pe_makeK0 M F (hr.mono hk) hg hm hb pass0 hkw hall hks hdb hpl
structure LifC (K : PySem.W.Frag) (C : Addr) : Prop where
  cls : Cls K C
  n1 : NoAttr K C "place"
  n2 : NoAttr K C "hand"
  n3 : NoAttr K C "drafts"
  n4 : NoAttr K C "called"
def spLifeI (C : Addr) : Sp := fun vs H Q _ => ∃ (x dx : Addr) (v1 v2 v3 v4 : V), vs = [.ref x, v1, v2, v3, v4] ∧ H x = some (.ins C dx []) ∧ Q .non (upd H x (.ins C dx [("place", v1), ("hand", v2), ("drafts", v3), ("called", v4)]))
theorem st_mkK {σ : L2.St} {H : Hp} {Q : VK} {C : Addr} {n m : Nat} {sp : Sp} {gV : List V → List V → List V} {E : XK} {t tk : TA} (h : t σ H fun vs H1 => tk σ H1 fun zs H2 => vs.length = n ∧ zs.length = m ∧ ∀ x dx, H2 x = none → H2 dx = none → dx ≠ x →
  sp (gV (.ref x :: vs) zs) (upd (upd H2 dx (.own x)) x (.ins C dx [])) (fun v H3 => v = .non ∧ Q (.ref x) H3) E) : tMakeK C n m sp gV E t tk σ H Q := h
end TB
namespace TB
open PySem PySem.Spec PyProof.Rows L2 LamX NdefX
theorem eqv_strs : ∀ ws : List Str, PyData.eqv (dStrs ws) (dStrs ws) = true
  | [] => by simp [dStrs, PyData.eqv, PyData.eqvAll]
  | z :: r => by
    have ih := eqv_strs r
    simp only [dStrs, PyData.eqv] at ih ⊢
    simp only [List.map_cons, PyData.eqvAll, PyData.eqv, beq_self_eq_true, Bool.true_and]
    exact ih
theorem st_neS {K : PySem.W.Frag} {H : Hp} {Q : VK} {a b : Addr} {ws : List Str} (h : ∀ z ∈ ws, Nm z) (h1 : SqL K H a (ws.map V.str)) (h2 : SqL K H b (ws.map V.str)) (q : Q (.bl false) H) : rNeD K (.ref a) (.ref b) H Q :=
  ⟨dStrs ws, dStrs ws, dp_strs h1, dp_strs h2, sh_strs h, sh_strs h, by rw [eqv_strs]; exact q⟩
theorem st_reprB {K : PySem.W.Frag} {H : Hp} {Q : VK} {b : Bool} (q : Q (.str (PyData.bool b).shown) H) : rReprD K [.bl b] H Q := by
  refine st_repr (.bl b) ?_ ?_ ?_ q
  · cases b <;> decide +kernel
  · cases b <;> decide +kernel
  · cases b <;> decide +kernel
theorem st_reprS {K : PySem.W.Frag} {H : Hp} {Q : VK} {a : Addr} {ws : List Str} (h : ∀ z ∈ ws, Nm z) (n : ws.length ≤ 1000) (h1 : SqL K H a (ws.map V.str)) (q : Q (.str (dStrs ws).shown) H) : rReprD K [.ref a] H Q := by
  have h2 := strs_len h
  refine st_repr (dp_strs h1) (strs_show ws) (Nat.le_trans (strs_depth _) (by decide)) ?_ q
  rw [sizeLine_eq]
  omega
theorem st_slT {K : PySem.W.Frag} {H : Hp} {Q : VK} {a : Addr} {xs : List V} {n : Nat} (h : H a = some (.tup xs)) (k : ∀ p H', Same H H' → (NoT H → NoT H') → H' p = some (.tup (xs.take n)) → Q (.ref p) H') : rSlA K (.ref a) none (some (n : Int)) H Q := by
  refine ⟨a, xs, rfl, sqT_of h, fun e => ?_, fun _ p np => ?_⟩
  · refine k a H (fun _ _ z => z) id ?_
    have e2 : xs.take n = xs := by
      rw [← cut_to]
      unfold cutV
      rw [e.1, e.2]
      simp
    rw [e2]
    exact h
  · rw [cut_to]
    exact k p _ (fun _ _ z => old_upd np z) (fun z => z.tup) upd_same
end TB
namespace TB
open PySem PySem.Spec PyProof.Rows L2 LamX NdefX
/-- the code object of a def of the text -/
theorem code_of {K : PySem.W.Frag} {x qual : Str} {params : Arguments} {body : List Stmt} {scope : Scope} {dvs : List V} {kws : List (Str × V)} {p : Str × Option Str} {fd : FuncData} (F : FunD K x qual params body scope dvs kws (He.fAd K p) fd) : fd.code = .ref (He.codeOf K p) := by
  obtain ⟨oc, od, dV, kV, doc, pm, an, cdv, ct, osl, rfl, lk, hcd, _, _⟩ := F.ex
  obtain ⟨c, rfl⟩ := He.codeIn_ref hcd
  rw [He.codeOf_eq lk rfl]
/-- the keyword default x of the def at f, if it is an object -/
def kwAt (f : Str × Option Str) (x : Str) (K : PySem.W.Frag) : Addr := match K.lookup (He.fAd K f) with
  | some ⟨_, _, .func fd, _⟩ => (match fd.kwdefaults with
    | .ref D => (match PySem.W.nsIn K D x with
      | some (some (.ref a)) => a
      | _ => 0)
    | _ => 0)
  | _ => 0
/-- a tuple of none -/
def nilB (a : PySem.W.Frag → Addr) (K : PySem.W.Frag) : Bool := match K.lookup (a K) with
  | some ⟨.type c, _, .seq its _, _⟩ => decide (c = "tuple") && decide (its.toList = [])
  | _ => false
theorem nilB_ok {a : PySem.W.Frag → Addr} {K : PySem.W.Frag} (h : nilB a K = true) (H : Hp) : SqT K H (a K) [] := by
  unfold nilB at h
  cases q : K.lookup (a K) with
  | none =>
    rw [q] at h
    exact nomatch h
  | some o =>
    obtain ⟨oc, od, dt, osl⟩ := o
    rw [q] at h
    cases oc with
    | type c =>
      cases dt with
      | seq its n =>
        have h2 : (decide (c = "tuple") && decide (its.toList = [])) = true := h
        rw [Bool.and_eq_true, decide_eq_true_iff, decide_eq_true_iff] at h2
        refine Or.inr ⟨_, its, n, q, congrArg Value.type h2.1, rfl, ?_, ?_⟩
        · rw [← Array.length_toList, h2.2]
          exact Nat.zero_le _
        · rw [h2.2]
          exact .nil
      | _ => exact nomatch h
    | _ => exact nomatch (show (_ : Bool) = true from h)
end TB
namespace TB
open PySem PySem.Spec PyProof.Rows L2 LamX NdefX
theorem TabS_nil {H : Hp} {T : Addr} {q : Str} (h : H T = some (.tbl #[])) : TabS H T q := TabS.nil h
theorem ne_tab {K : PySem.W.Frag} {H : Hp} {a T : Addr} {xs : List V} (h : SqL K H a xs) (t : H T = some (.tbl #[])) (n : K.lookup T = none) : a ≠ T := by
  rintro rfl
  rcases h with (e | ⟨o, e⟩) | ⟨o, its, m, e, _⟩
  · rw [t] at e
    exact nomatch e
  · rw [t] at e
    exact nomatch e
  · rw [n] at e
    exact nomatch e
/-- Life(place=, hand=, called=): drafts by default -/
def gLife {α : Type} (us mv ws : List α) : List α := match us, mv, ws with
  | [x], [d], [p, h, c] => [x, p, h, d, c]
  | _, _, _ => []
theorem gLife_rel {vs mz zs : List V} {us mv ws : List Value} (h1 : Vals vs us) (h2 : Vals mz mv) (h3 : Vals zs ws) : Vals (gLife vs mz zs) (gLife us mv ws) := by
  match vs, us, mz, mv, zs, ws, h1, h2, h3 with
  | [_], [_], [_], [_], [_, _, _], [_, _, _], .cons a .nil, .cons b .nil, .cons p (.cons h (.cons c .nil)) => exact .cons a (.cons p (.cons h (.cons b (.cons c .nil))))
  | [], [], _, _, _, _, _, _, _ => exact .nil
  | _ :: _ :: _, _ :: _ :: _, _, _, _, _, _, _, _ => exact .nil
  | [_], [_], [], [], _, _, _, _, _ => exact .nil
  | [_], [_], _ :: _ :: _, _ :: _ :: _, _, _, _, _, _ => exact .nil
  | [_], [_], [_], [_], [], [], _, _, _ => exact .nil
  | [_], [_], [_], [_], [_], [_], _, _, _ => exact .nil
  | [_], [_], [_], [_], [_, _], [_, _], _, _, _ => exact .nil
  | [_], [_], [_], [_], _ :: _ :: _ :: _ :: _, _ :: _ :: _ :: _ :: _, _, _, _ => exact .nil
end TB
namespace TB
open PySem PySem.Spec PyProof.Rows L2 LamX NdefX
section
variable {K : PySem.W.Frag} {a : Addr} {xs : List V} {g : TG} {tt : TT} {te : TE} {vs : List Nat} {σ : L2.St} {H1 : Hp} {Q : VK}
/-- [e for i, x in enumerate(xs) if ..] -/
theorem lc_en (Pv : Addr → Nat → List V → Hp → Prop) (h0 : ∀ D, H1 D = none → Pv D 0 [] (upd H1 D (.lst []))) (hk : ∀ D i acc H, Pv D i acc H → SqL K H a xs)
    (hs : ∀ (D : Addr) (i : Nat) (x : V) (acc : List V) (t : Addr) (H : Hp), H1 D = none → xs[i]? = some x → Pv D i acc H → H t = none → g (.ref t) (wipe σ vs) (upd H t (.tup [.int (i : Int), x])) fun σ2 H2 => wipe σ2 vs = wipe σ vs ∧ tt σ2 H2 fun b H3 =>
      if b = true then te σ2 H3 fun y H4 => ∃ acc', H4 D = some (.lst acc') ∧ acc'.length < sizeLine ∧ ∃ a2, Pv D (i + 1) a2 (upd H4 D (.lst (acc' ++ [y]))) else ∃ a2, Pv D (i + 1) a2 H3)
    (hd : ∀ D acc H, H1 D = none → Pv D xs.length acc H → Q (.ref D) H) : LcG (Ite K a) g tt te vs σ Q H1 := by
  intro D nD
  refine ⟨fun i m H => m = xs.length - i ∧ i ≤ xs.length ∧ ∃ acc, Pv D i acc H, ⟨xs.length, by simp, Nat.zero_le _, [], h0 D nD⟩, ?_⟩
  rintro i m H ⟨rfl, hi, acc, p⟩
  have sq := hk D i acc H p
  by_cases lt : i < xs.length
  · refine Or.inr ⟨⟨xs, xs[i], sq, List.getElem?_eq_getElem lt⟩, fun H' => ∃ acc, Pv D (i + 1) acc H', fun H' p' => ⟨xs.length - (i + 1), by omega, rfl, lt, p'⟩, fun v H' y => ?_⟩
    obtain ⟨t, x, rfl, nt, rfl, e⟩ := y
    exact hs D i x acc t H nD (e xs sq) p nt
  · obtain rfl : i = xs.length := by omega
    exact Or.inl ⟨⟨xs, sq, Nat.le_refl _⟩, hd D acc H nD p⟩
end
/-- how many stay: those ahead of the first that is among fs -/
def stayOf (zs fs : List Str) : Nat := (zs.takeWhile fun z => !decide (z ∈ fs)).length
theorem stay_le (zs fs : List Str) : stayOf zs fs ≤ zs.length := (List.takeWhile_sublist _).length_le
/-- the places of those among fs -/
def goneOf (zs fs : List Str) (n : Nat) : List Nat := (List.range n).filter fun i => decide (zs.getD i ⟨#[]⟩ ∈ fs)
def spLocks (C : Addr) : Sp := fun vs H Q _ => ∃ (x : Addr) (ls : List Str) (ps : List Pr), vs = [.ref x] ∧ OrdAt C H x ls ps ∧ ∀ l, H l = none → Q (.ref l) (upd H l (.lst (ls.map V.str)))
def spPairs (C : Addr) : Sp := fun vs H Q _ => ∃ (x : Addr) (ls : List Str) (ps : List Pr), vs = [.ref x] ∧ OrdAt C H x ls ps ∧ ∀ (l : Addr) (rs : List V), H l = none → Prs H rs ps → Q (.ref l) (upd H l (.lst rs))
end TB
/-! What an ask comes to, plain. -/
namespace TB
open PySem PySem.Spec PyProof.Rows L2 LamX NdefX
theorem stay_out : ∀ {zs fs : List Str} {i : Nat}, i < stayOf zs fs → zs.getD i ⟨#[]⟩ ∉ fs
  | [], fs, i, h => absurd h (Nat.not_lt_zero _)
  | z :: r, fs, i, h => by
    by_cases c : z ∈ fs
    · have e : stayOf (z :: r) fs = 0 := by
        unfold stayOf
        rw [List.takeWhile_cons_of_neg (by simp [c])]
        rfl
      rw [e] at h
      exact absurd h (Nat.not_lt_zero _)
    · have e : stayOf (z :: r) fs = stayOf r fs + 1 := by
        unfold stayOf
        rw [List.takeWhile_cons_of_pos (by simp [c])]
        rfl
      cases i with
      | zero => exact c
      | succ j =>
        rw [e] at h
        exact stay_out (zs := r) (by omega)
theorem stay_in : ∀ {zs fs : List Str}, stayOf zs fs < zs.length → zs.getD (stayOf zs fs) ⟨#[]⟩ ∈ fs
  | [], fs, h => absurd h (Nat.not_lt_zero _)
  | z :: r, fs, h => by
    by_cases c : z ∈ fs
    · have e : stayOf (z :: r) fs = 0 := by
        unfold stayOf
        rw [List.takeWhile_cons_of_neg (by simp [c])]
        rfl
      rw [e]
      exact c
    · have e : stayOf (z :: r) fs = stayOf r fs + 1 := by
        unfold stayOf
        rw [List.takeWhile_cons_of_pos (by simp [c])]
        rfl
      rw [e] at h ⊢
      exact stay_in (zs := r) (by simpa using h)
theorem gone_succ (zs fs : List Str) (n : Nat) : goneOf zs fs (n + 1) = goneOf zs fs n ++ (if zs.getD n ⟨#[]⟩ ∈ fs then [n] else []) := by
  unfold goneOf
  rw [List.range_succ, List.filter_append]
  by_cases c : zs.getD n ⟨#[]⟩ ∈ fs
  · rw [if_pos c, List.filter_cons, if_pos (decide_eq_true c)]
    rfl
  · rw [if_neg c, List.filter_cons, if_neg (by rw [decide_eq_false c]; decide)]
    rfl
theorem gone_is (zs fs : List Str) : ∀ n, n ≤ zs.length → (n ≤ stayOf zs fs → goneOf zs fs n = []) ∧ (stayOf zs fs < n → ∃ r, goneOf zs fs n = stayOf zs fs :: r)
  | 0, _ => ⟨fun _ => rfl, fun h => absurd h (Nat.not_lt_zero _)⟩
  | n + 1, hn => by
    obtain ⟨h1, h2⟩ := gone_is zs fs n (by omega)
    rw [gone_succ]
    constructor
    · intro h
      rw [h1 (by omega), if_neg (stay_out (by omega))]
      rfl
    · intro h
      by_cases c : stayOf zs fs = n
      · refine ⟨[], ?_⟩
        have c2 := stay_in (zs := zs) (fs := fs) (by omega)
        rw [h1 (by omega), ← c, if_pos c2]
        rfl
      · obtain ⟨r, e⟩ := h2 (by omega)
        exact ⟨r ++ _, by rw [e]; rfl⟩
theorem stay_congr {zs fs gs : List Str} (h : ∀ z ∈ zs, (z ∈ fs ↔ z ∈ gs)) : stayOf zs fs = stayOf zs gs := by
  unfold stayOf
  congr 1
  induction zs with
  | nil => rfl
  | cons z r ih =>
    have h1 := h z List.mem_cons_self
    have ih2 := ih (fun y hy => h y (List.mem_cons_of_mem _ hy))
    by_cases c : z ∈ fs
    · rw [List.takeWhile_cons_of_neg (by simp [c]), List.takeWhile_cons_of_neg (by simp [h1.mp c])]
    · rw [List.takeWhile_cons_of_pos (by simp [c]), List.takeWhile_cons_of_pos (by simp only [decide_eq_false (fun e => c (h1.mpr e)), Bool.not_false]), ih2]
theorem rch_iff {ps qs : List Pr} (h : ∀ z, z ∈ ps ↔ z ∈ qs) {a b : Str} : Rch ps a b ↔ Rch qs a b := ⟨Rch.mono fun p hp => (h p).mp hp, Rch.mono fun p hp => (h p).mpr hp⟩
theorem sh_ints (ns : List Int) : SeqAt.shaped (dInts ns) = true := by
  have h1 : ∀ ns : List Int, PyData.canLayAll0 (ns.map PyData.int) = true := by
    intro ns
    induction ns with
    | nil => simp [PyData.canLayAll0]
    | cons z r ih => simp [PyData.canLayAll0, PyData.canLay0, ih]
  have h2 : ∀ ns : List Int, PyData.depthAll (ns.map PyData.int) ≤ 1 := by
    intro ns
    induction ns with
    | nil => simp [PyData.depthAll]
    | cons z r ih =>
      simp only [List.map_cons, PyData.depthAll, PyData.depth]
      omega
  have h3 := h2 ns
  show (PyData.canLay0 (.list (ns.map PyData.int)) && decide (PyData.depth (.list (ns.map PyData.int)) ≤ 64)) = true
  rw [Bool.and_eq_true]
  refine ⟨by simp only [PyData.canLay0]; exact h1 ns, decide_eq_true ?_⟩
  simp only [PyData.depth]
  omega
theorem eqv_nilI (ns : List Int) : PyData.eqv (dInts ns) (dInts []) = decide (ns = []) := by
  cases ns with
  | nil => simp [dInts, PyData.eqv, PyData.eqvAll]
  | cons z r => simp [dInts, PyData.eqv, PyData.eqvAll]
theorem st_neNilI {K : PySem.W.Frag} {H : Hp} {Q : VK} {a b : Addr} {ns : List Int} (h1 : H a = some (.lst (ns.map V.int))) (h2 : H b = some (.lst [])) (q : Q (.bl (!decide (ns = []))) H) : rNeD K (.ref a) (.ref b) H Q :=
  ⟨dInts ns, dInts [], dp_ints (sqL_of h1), dp_ints (ns := []) (sqL_of h2), sh_ints ns, sh_ints [], by rw [eqv_nilI]; exact q⟩
theorem st_eqNilI {K : PySem.W.Frag} {H : Hp} {Q : VK} {a b : Addr} {ns : List Int} (h1 : H a = some (.lst (ns.map V.int))) (h2 : H b = some (.lst [])) (q : Q (.bl (decide (ns = []))) H) : rEqD K (.ref a) (.ref b) H Q :=
  ⟨dInts ns, dInts [], dp_ints (sqL_of h1), dp_ints (ns := []) (sqL_of h2), sh_ints ns, sh_ints [], by rw [eqv_nilI]; exact q⟩
/-- the answer of an ask -/
def askHow (zs fs : List Str) (z : Str) : Str := if z ∈ zs then "held" else if stayOf zs fs = zs.length then "asks" else "back"
def askN (zs fs : List Str) (z : Str) : Nat := if z ∈ zs then zs.length else stayOf zs fs
def askP (zs fs : List Str) (z : Str) : List Pr := if z ∈ zs then [] else (zs.take (stayOf zs fs)).map fun y => (y, z)
end TB
namespace TB
open PySem PySem.Spec PyProof.Rows L2 LamX NdefX
open Classical in
theorem OrdOk.reachL {ls : List Str} {ps : List Pr} (h : OrdOk ls ps) (z : Str) : ∃ fs : List Str, ∀ u, u ∈ fs ↔ Rch ps z u := by
  refine ⟨ls.filter fun u => decide (Rch ps z u), fun u => ?_⟩
  rw [List.mem_filter, decide_eq_true_iff]
  refine ⟨fun e => e.2, fun e => ⟨?_, e⟩⟩
  cases e with
  | one m => exact (h.mem _ m).2
  | step _ m => exact (h.mem _ m).2
theorem atI0 {r : List V} {v : V} : atI (v :: r) (0 : Int) = some v := atI_nat (j := 0) rfl
theorem gone_ints (l : List Nat) : l.map (fun j => V.int (j : Nat)) = (l.map (fun j : Nat => (j : Int))).map V.int := by rw [List.map_map]; rfl
end TB
namespace TB
open PySem PySem.Spec PyProof.Rows L2 LamX NdefX
/-- the search by a list of pairs, within one turn: the pairs seen so far are qs -/
structure JInv (ls : List Str) (ps qs : List Pr) (a l : Str) (fs lf : List Str) : Prop where
  nd : fs.Nodup
  sub : ∀ z ∈ fs, Rch ps a z
  ins : ∀ z ∈ fs, z ∈ ls
  lft : ∀ z ∈ lf, z = a ∨ z ∈ fs
  me : l = a ∨ l ∈ fs
  cl : ∀ z, z = a ∨ z ∈ fs → z ≠ l → z ∈ lf ∨ ∀ c, (z, c) ∈ ps → c ∈ fs
  own : ∀ c, (l, c) ∈ qs → c ∈ fs
theorem JInv.start {ls : List Str} {ps : List Pr} {a l : Str} {fs lf : List Str} (b : BInv ls ps a fs (lf ++ [l])) : JInv ls ps [] a l fs lf := by
  refine ⟨b.nd, b.sub, b.ins, fun z hz => b.lft z (List.mem_append_left _ hz), b.lft l (List.mem_append_right _ (List.mem_singleton.mpr rfl)), fun z hz hn => ?_, (fun _ z => nomatch z)⟩
  rcases b.cl z hz with e | e
  · rcases List.mem_append.mp e with e2 | e2
    · exact Or.inl e2
    · exact absurd (List.mem_singleton.mp e2) hn
  · exact Or.inr e
theorem JInv.skip {ls : List Str} {ps qs : List Pr} {a l : Str} {fs lf : List Str} (b : JInv ls ps qs a l fs lf) {p : Pr} (h : p.1 = l → p.2 ∈ fs) : JInv ls ps (qs ++ [p]) a l fs lf := by
  refine ⟨b.nd, b.sub, b.ins, b.lft, b.me, b.cl, fun c hc => ?_⟩
  rcases List.mem_append.mp hc with e | e
  · exact b.own c e
  · have e2 := List.mem_singleton.mp e
    have e3 := h (by rw [← e2])
    rw [← e2] at e3
    exact e3
theorem JInv.put {ls : List Str} {ps qs : List Pr} {a l : Str} {fs lf : List Str} (b : JInv ls ps qs a l fs lf) {p : Pr} (hp : p ∈ ps) (h1 : p.1 = l) (h2 : p.2 ∉ fs) (h3 : p.2 ∈ ls) : JInv ls ps (qs ++ [p]) a l (fs ++ [p.2]) (lf ++ [p.2]) := by
  refine ⟨?_, ?_, ?_, ?_, ?_, ?_, ?_⟩
  · exact List.nodup_append.mpr ⟨b.nd, by simp, fun u hu v hv e => h2 (by rw [List.mem_singleton.mp hv] at e; rw [← e]; exact hu)⟩
  · intro z hz
    rcases List.mem_append.mp hz with e | e
    · exact b.sub z e
    · rw [List.mem_singleton.mp e]
      have hp2 : (l, p.2) ∈ ps := by rw [← h1]; exact hp
      rcases b.me with e2 | e2
      · rw [e2] at hp2
        exact .one hp2
      · exact .step (b.sub l e2) hp2
  · intro z hz
    rcases List.mem_append.mp hz with e | e
    · exact b.ins z e
    · rw [List.mem_singleton.mp e]
      exact h3
  · intro z hz
    rcases List.mem_append.mp hz with e | e
    · rcases b.lft z e with e2 | e2
      · exact Or.inl e2
      · exact Or.inr (List.mem_append_left _ e2)
    · exact Or.inr (List.mem_append_right _ e)
  · rcases b.me with e | e
    · exact Or.inl e
    · exact Or.inr (List.mem_append_left _ e)
  · intro z hz hn
    by_cases m : z = a ∨ z ∈ fs
    · rcases b.cl z m hn with e | e
      · exact Or.inl (List.mem_append_left _ e)
      · exact Or.inr (fun c hc => List.mem_append_left _ (e c hc))
    · refine Or.inl (List.mem_append_right _ ?_)
      rcases hz with e | e
      · exact absurd (Or.inl e) m
      · rcases List.mem_append.mp e with e2 | e2
        · exact absurd (Or.inr e2) m
        · exact e2
  · intro c hc
    rcases List.mem_append.mp hc with e | e
    · exact List.mem_append_left _ (b.own c e)
    · have e2 := List.mem_singleton.mp e
      refine List.mem_append_right _ (List.mem_singleton.mpr ?_)
      rw [← e2]
theorem JInv.done {ls : List Str} {ps : List Pr} {a l : Str} {fs lf : List Str} (b : JInv ls ps ps a l fs lf) : BInv ls ps a fs lf := by
  refine ⟨b.nd, b.sub, b.ins, b.lft, fun z hz => ?_⟩
  by_cases c : z = l
  · rw [c]
    exact Or.inr b.own
  · exact b.cl z hz c
end TB
namespace TB
open PySem PySem.Spec PyProof.Rows L2 LamX NdefX
theorem Prs.get {H : Hp} : ∀ {rs : List V} {ps : List Pr} {j : Nat} {x : V}, Prs H rs ps → rs[j]? = some x → ∃ (t : Addr) (p : Pr), x = .ref t ∧ ps[j]? = some p ∧ H t = some (.tup [.str p.1, .str p.2])
  | _, _, j, x, .nil, h => nomatch (show (none : Option V) = some x from h)
  | _, _, 0, x, .cons (b := p) ⟨t, e, z⟩ r, h => ⟨t, p, (Option.some.inj h).symm.trans e, rfl, z⟩
  | _, _, j + 1, x, .cons a r, h => Prs.get (j := j) r h
end TB
namespace TB
open PySem PySem.Spec PyProof.Rows L2 LamX NdefX
open Classical in
theorem reachP (ps : List Pr) (z : Str) : ∃ fs : List Str, ∀ u, u ∈ fs ↔ Rch ps z u := by
  refine ⟨(ps.map fun p => p.2).filter fun u => decide (Rch ps z u), fun u => ?_⟩
  rw [List.mem_filter, decide_eq_true_iff]
  refine ⟨fun e => e.2, fun e => ⟨?_, e⟩⟩
  cases e with
  | one m => exact List.mem_map.mpr ⟨_, m, rfl⟩
  | step _ m => exact List.mem_map.mpr ⟨_, m, rfl⟩
end TB
/-! Answers of asks shown. -/
namespace TB
open PySem PySem.Spec PyProof.Rows L2 LamX NdefX
theorem shown_tuple_le {B : Nat} {ds : List PyData} (h : ∀ d ∈ ds, d.shown.length ≤ B) : (PyData.tuple ds).shown.length ≤ ds.length * B + 2 * ds.length + 3 := by
  have e : (PyData.tuple ds).shown = tupleText (ds.map fun d => d.shown) := by
    simp only [PyData.shown]
    rw [show ds = ds.map id from (List.map_id ds).symm, shownAll_map]
    simp
  rw [e]
  have h1 := tupleText_len_le (ds.map fun d => d.shown)
  rw [List.map_map, List.length_map] at h1
  have h2 : (ds.map ((fun x : Str => x.length) ∘ fun d => d.shown)).sum ≤ ds.length * B := sum_le fun x hx => h x hx
  omega
theorem dPr_len {p : Pr} (h : NmP p) : (dPr p).shown.length ≤ 171 := by
  have := shown_tuple_le (B := 82) (ds := [.str p.1, .str p.2]) (fun d hd => by
    simp only [List.mem_cons, List.not_mem_nil, or_false] at hd
    rcases hd with rfl | rfl
    · exact shown_nm h.1
    · exact shown_nm h.2)
  exact this
def dPrs (ps : List Pr) : PyData := .list (ps.map dPr)
theorem dPrs_len {ps : List Pr} (h : ∀ p ∈ ps, NmP p) : (dPrs ps).shown.length ≤ ps.length * 171 + 2 * ps.length + 3 := shown_list_le fun x hx => dPr_len (h x hx)
/-- the answer as data -/
def dAsk (how : Str) (n : Nat) (ps : List Pr) : PyData := .tuple [.str how, .int (n : Int), dPrs ps]
theorem dAsk_dp {K : PySem.W.Frag} {H : Hp} {t l : Addr} {how : Str} {n : Nat} {rs : List V} {ps : List Pr} (h1 : H t = some (.tup [.str how, .int (n : Nat), .ref l])) (h2 : H l = some (.lst rs)) (h3 : Prs H rs ps) : Dp K H (.ref t) (dAsk how n ps) :=
  .tup (sqT_of h1) (.cons (.str _) (.cons (.int _) (.cons (.lst (sqL_of h2) h3.dp) .nil)))
theorem askHow_nm (zs fs : List Str) (z : Str) : Nm (askHow zs fs z) := by
  unfold askHow
  split
  · exact nm_of (by decide +kernel)
  · split
    · exact nm_of (by decide +kernel)
    · exact nm_of (by decide +kernel)
theorem st_reprAsk {K : PySem.W.Frag} {H : Hp} {Q : VK} {t l : Addr} {how : Str} {n : Nat} {rs : List V} {ps : List Pr} (h1 : H t = some (.tup [.str how, .int (n : Nat), .ref l])) (h2 : H l = some (.lst rs)) (h3 : Prs H rs ps) (nh : Nm how) (np : ∀ p ∈ ps, NmP p) (hn : n ≤ 1000) (hp : ps.length ≤ 1000)
    (q : Q (.str (dAsk how n ps).shown) H) : rReprD K [.ref t] H Q := by
  refine st_repr (dAsk_dp h1 h2 h3) ?_ ?_ ?_ q
  · have e1 := ints_show (ns := [(n : Int)]) (fun m hm => by
      rw [List.mem_singleton.mp hm]
      exact Nat.lt_of_le_of_lt (show n ≤ 1000 from hn) (by decide))
    simp only [dInts, List.map_cons, List.map_nil, PyData.showable, PyData.showableAll] at e1
    simp only [dAsk, dPrs, PyData.showable, PyData.showableAll]
    rw [Bool.and_true] at e1
    rw [e1, showAll_map (f := dPr) (fun x _ => by simp only [dPr, PyData.showable, PyData.showableAll]; rfl)]
    rfl
  · have e1 := depthAll_map (f := dPr) (n := 2) (l := ps) (fun x _ => dPr_depth x)
    simp only [dAsk, dPrs, PyData.depth, PyData.depthAll]
    omega
  · have e1 := dPrs_len np
    have e2 := shown_tuple_le (B := 173003) (ds := [.str how, .int (n : Int), dPrs ps]) (fun d hd => by
      simp only [List.mem_cons, List.not_mem_nil, or_false] at hd
      rcases hd with rfl | rfl | rfl
      · exact Nat.le_trans (shown_nm nh) (by decide)
      · exact Nat.le_trans (shown_int_le (Nat.lt_of_le_of_lt (show n ≤ 1000 from hn) (by decide))) (by decide)
      · omega)
    rw [sizeLine_eq]
    show (PyData.tuple [.str how, .int (n : Int), dPrs ps]).shown.length ≤ _
    have e3 : ([PyData.str how, PyData.int (n : Int), dPrs ps] : List PyData).length = 3 := rfl
    rw [e3] at e2
    omega
end TB
namespace TB
open PySem PySem.Spec PyProof.Rows L2 LamX NdefX
theorem eqv_prs : ∀ ps : List Pr, PyData.eqv (dPrs ps) (dPrs ps) = true
  | [] => by simp [dPrs, PyData.eqv, PyData.eqvAll]
  | p :: r => by
    have ih := eqv_prs r
    simp only [dPrs, PyData.eqv] at ih ⊢
    simp only [List.map_cons, PyData.eqvAll]
    rw [dPr_eqv, decide_eq_true rfl, Bool.true_and]
    exact ih
theorem sh_prs {ps : List Pr} (h : ∀ p ∈ ps, NmP p) : SeqAt.shaped (dPrs ps) = true := by
  have h1 := dPrs_depth ps
  show (PyData.canLay0 (.list (ps.map dPr)) && decide (PyData.depth (.list (ps.map dPr)) ≤ 64)) = true
  rw [Bool.and_eq_true]
  refine ⟨by simp only [PyData.canLay0]; exact dPrs_lay h, decide_eq_true ?_⟩
  simp only [PyData.depth]
  omega
theorem st_nePr {K : PySem.W.Frag} {H : Hp} {Q : VK} {a b : Addr} {rs rs' : List V} {ps : List Pr} (h : ∀ p ∈ ps, NmP p) (h1 : H a = some (.lst rs)) (h2 : Prs H rs ps) (h3 : H b = some (.lst rs')) (h4 : Prs H rs' ps) (q : Q (.bl false) H) : rNeD K (.ref a) (.ref b) H Q :=
  ⟨dPrs ps, dPrs ps, .lst (sqL_of h1) h2.dp, .lst (sqL_of h3) h4.dp, sh_prs h, sh_prs h, by rw [eqv_prs]; exact q⟩
end TB
open TB in
local macro_rules | `(tactic| walk_at "s") => `(tactic| first
  | with_reducible refine st_seq ?_
  | with_reducible refine st_asg ?_
  | with_reducible refine st_name ?_
  | ((with_reducible refine st_var (v := ?v) ?e ?_); (case e => exact rfl))
  | with_reducible refine st_c ?_
  | with_reducible refine st_op ?_
  | with_reducible refine st_cons ?_
  | with_reducible refine st_nil ?_
  | with_reducible refine st_cb ?_
  | with_reducible refine st_call ?_
  | with_reducible refine st_I0 ?_
  | with_reducible refine st_test ?_
  | with_reducible refine st_bl ?_
  | with_reducible refine st_ifs ?_
  | with_reducible refine st_if ?_
  | with_reducible refine st_ret ?_
  | with_reducible refine st_drop ?_
  | with_reducible refine st_next ?_
  | with_reducible refine st_lst ?_
  | with_reducible refine st_tup ?_
  | ((with_reducible refine st_eq ?e ?_); (case e => exact rfl))
  | ((with_reducible refine st_ne ?e ?_); (case e => exact rfl))
  | with_reducible refine st_not ?_
  | with_reducible refine st_and ?_
  | with_reducible refine st_or ?_
  | with_reducible refine st_tb ?_
  | with_reducible refine st_yes ?_
  | with_reducible refine st_un ?_
  | with_reducible refine st_sl ?_
  | with_reducible refine st_nopart ?_
  | with_reducible refine st_part ?_
  | with_reducible refine st_gcons ?_
  | with_reducible refine st_gnil ?_
  | with_reducible refine st_gsub ?_
  | with_reducible refine st_bm ?_
  | with_reducible refine st_m1 ?_
  | with_reducible refine st_intB ?_
  | with_reducible refine st_for ?_
  | with_reducible refine st_lc ?_
  | with_reducible refine st_rng1 ?_
  | with_reducible refine st_il ?_
  | with_reducible refine st_is ?_
  | with_reducible refine st_ie ?_
  | with_reducible refine st_par ?_
  | ((with_reducible show ∃ i, L2.V.int _ = L2.V.int i ∧ _); refine ⟨_, rfl, ?_⟩)
  | ((with_reducible show (∃ a, L2.V.str _ = L2.V.str a) ∧ _); refine ⟨⟨_, rfl⟩, ?_⟩)
  | ((with_reducible show ∃ v w, [_, _] = [v, w] ∧ _); refine ⟨_, _, rfl, ?_⟩)
  | with_reducible refine st_fld ?_
  | with_reducible refine st_mkK ?_
  | with_reducible refine st_lc2 ?_
  | with_reducible refine st_bmT ?_
  | with_reducible refine st_sortLam ?_
  | with_reducible refine st_itu ?_
  | with_reducible refine st_mt ?_
  | with_reducible refine st_mk ?_
  | with_reducible refine st_sfld ?_
  | with_reducible refine st_bm0 ?_
  | with_reducible refine st_revS ?_
  | with_reducible refine st_revL ?_)
local macro_rules | `(tactic| walk_at "ss") => `(tactic| repeat walk_at "s")
namespace K42
open PySem PySem.Spec PyProof.Rows L2 TB LamX
open C8 (Cal pe_c Mak pe_mk Met pe_mt pe_mt0 pss_cut tCut pe_gc)
def top (i : Nat) : Stmt := PySem.Challenge.pw_turnedback_k42_what_an_ask_comes_to.main.body.getD i (.Pass ⟨0, 0, 0, 0⟩)
abbrev s_Order_want : Stmt := inClass (top 9) 1
theorem sc_Order_want : FnScope ["self", "lock"] ["self", "lock"] (defScope s_Order_want) := ⟨rfl, rfl, rfl, by decide +kernel, rfl, by decide +kernel, by decide +kernel⟩
abbrev s_Order_has : Stmt := inClass (top 9) 4
theorem sc_Order_has : FnScope ["self", "one", "other"] ["self", "one", "other"] (defScope s_Order_has) := ⟨rfl, rfl, rfl, by decide +kernel, rfl, by decide +kernel, by decide +kernel⟩
abbrev s_Order_after : Stmt := inClass (top 9) 5
theorem sc_Order_after : FnScope ["self", "lock", "one", "other"] ["self", "lock"] (defScope s_Order_after) := ⟨rfl, rfl, rfl, by decide +kernel, rfl, by decide +kernel, by decide +kernel⟩
section
variable {P : Program} {w : World} {K : PySem.W.Frag} {mg : Str → Option Value} {base : Heap} {f C : Addr} {fd : FuncData}
theorem ok_Order_want (F : FnM K "want" "Order.want" s_Order_want [] f fd) (T : BltA mg) (oc : OrdC K C) : FnOk P w K mg base CX0 1 f fd ["self", "lock"] (spWant C) := by
  refine F.ok sc_Order_want (fun vs H Q E h => ?_) (fun cdv A outer s H vs Q E hr h => ⟨_, PSs.nox
(pss_one (ps_if (PW.pt (pw_or (pt_not (pt_val (pe_callB call_isStr (by rfl) T.b_isinstance (by decide +kernel) (pa_cons (pv 1) (pa_cons (pe_bltn (v := .ty "str") (u := .type "str") (by rfl) T.b_str (by decide +kernel) rfl) pa_nil))))) (pw_or1 (pt_cmpR (op_ninK K) (pv 1) (kFld K (pe_fld (pv 0) rfl)) rfl))))
    (pss_one ps_never)
    pss_nil))
, ?_⟩)
  · obtain ⟨x, z, ls, ps, rfl, _⟩ := h
    rfl
  · obtain ⟨x, z, ls, ps, rfl, ⟨dx, tl, tp, rs, h1, h2, h3, h4⟩, hz, q⟩ := h
    walk_at "ss"
    refine ⟨z, rfl, ?_⟩
    walk_at "ss"
    refine iteF ?_
    walk_at "ss"
    refine ⟨x, C, dx, _, _, rfl, h1, oc.cls, oc.nl, rfl, ?_⟩
    walk_at "ss"
    refine st_ninT h2.sq ?_
    walk_at "ss"
    rw [decide_eq_true hz]
    refine iteF ?_
    walk_at "ss"
    exact q
theorem ok_Order_has (F : FnM K "has" "Order.has" s_Order_has [] f fd) (T : BltA mg) (oc : OrdC K C) (m_Order_want : Met P w K mg base 1 C "want" (spWant C) []) : FnOk P w K mg base CX0 2 f fd ["self", "one", "other"] (spHas C) := by
  refine fn_fg (sp := fun vs H Q _ => ∃ (x : Addr) (a b : Str) (ls : List Str) (ps : List Pr), vs = [.ref x, .str a, .str b] ∧ OrdAt C H x ls ps ∧ OrdOk ls ps ∧ a ∈ ls ∧ b ∈ ls ∧ NoT H ∧ ∀ H', Same H H' → Q (.bl (decide ((a, b) ∈ ps))) H') ?_ ?_
  · refine F.ok sc_Order_has (fun vs H Q E h => ?_) (fun cdv A outer s H vs Q E hr h => ⟨_, PSs.nox
(pss_cons (ps_expr (pe_mt m_Order_want hr (by decide) (pv 0) (pa_cons (pv 1) pa_nil)))
  (pss_cons (ps_expr (pe_mt m_Order_want hr (by decide) (pv 0) (pa_cons (pv 2) pa_nil)))
  (pss_one (ps_ret (pe_cmpR (op_inP (hu65 hr)) (pe_tup (pa_cons (pv 1) (pa_cons (pv 2) pa_nil))) (kFld K (pe_fld (pv 0) rfl)) rfl)))))
, ?_⟩)
    · obtain ⟨x, a, b, ls, ps, rfl, _⟩ := h
      rfl
    · obtain ⟨x, a, b, ls, ps, rfl, ho, hok, ha, hb, nt, q⟩ := h
      obtain ⟨dx, tl, tp, rs, h1, h2, h3, h4⟩ := id ho
      walk_at "ss"
      refine ⟨x, dx, _, rfl, h1, rfl, ?_⟩
      walk_at "ss"
      refine ⟨x, a, ls, ps, rfl, ho, ha, ?_⟩
      walk_at "ss"
      refine ⟨x, dx, _, rfl, h1, rfl, ?_⟩
      walk_at "ss"
      refine ⟨x, b, ls, ps, rfl, ho, hb, ?_⟩
      walk_at "ss"
      refine ⟨(by show 2 ≤ sizeLine; decide), fun t nt2 => ?_⟩
      walk_at "ss"
      refine ⟨x, C, dx, _, _, rfl, old_upd nt2 h1, oc.cls, oc.np, rfl, ?_⟩
      refine st_inP (p := (a, b)) upd_same (Or.inl (old_upd nt2 h3)) (h4.keep fun c xs e => old_upd nt2 e) ⟨hok.nm a ha, hok.nm b hb⟩ hok.nmp ?_
      exact q _ (fun c o e => old_upd nt2 e)
  · rintro vs H Q E ⟨x, a, b, ls, ps, rfl, ho, hok, ha, hb, nt, q⟩
    exact ⟨x, a, b, ls, ps, rfl, ho, hok, ha, hb, nt, fun H' sm => ⟨H, Fg.back sm nt, q⟩⟩
theorem ok_Order_after (F : FnM K "after" "Order.after" s_Order_after [] f fd) (T : BltA mg) (oc : OrdC K C) : FnOk P w K mg base CX0 1 f fd ["self", "lock"] (spAfter C) := by
  refine F.ok sc_Order_after (fun vs H Q E h => ?_) (fun cdv A outer s H vs Q E hr h => ⟨_, PSs.nox
(pss_one (ps_ret (pe_lc (own := [("one", 2), ("other", 3)]) rfl sc_Order_after.nd (kPT K (pi_tup (kFld K (pe_fld (pv 0) rfl)))) (blkOk_by (N := ["self", "lock", "one", "other"]) (sc := defScope s_Order_after) (by decide +kernel)) (fun _ _ _ _ _ => kTup K 2 (pg_tup rfl (pgs_cons (pg_name (i := 2) sc_Order_after.nd rfl (Or.inl rfl)) (pgs_cons (pg_name (i := 3) sc_Order_after.nd rfl (Or.inl rfl)) pgs_nil)))) (fun _ _ _ _ _ => pts_one (pt_cmpR op_eq (pv 2) (pv 1) (nomark _))) (fun _ _ _ _ _ => (pv 3)))))
, ?_⟩)
  · obtain ⟨x, z, ls, ps, rfl, _⟩ := h
    rfl
  · obtain ⟨x, z, ls, ps, rfl, ⟨dx, tl, tp, rs, h1, h2, h3, h4⟩, hok, q⟩ := h
    walk_at "ss"
    refine ⟨x, C, dx, _, _, rfl, h1, oc.cls, oc.np, rfl, ?_⟩
    walk_at "ss"
    have pl := hok.plen
    have er : rs.filterMap (fun v => if (decP H v).1 = z then some (V.str (decP H v).2) else none) = (afterP ps z).map V.str := by
      unfold afterP
      rw [h4.dec, List.filterMap_map, List.map_filterMap]
      refine fm_congr (fun v _ => ?_)
      show _ = Option.map V.str (if (decP H v).1 = z then some (decP H v).2 else none)
      by_cases c : (decP H v).1 = z
      · rw [if_pos c, if_pos c]
        rfl
      · rw [if_neg c, if_neg c]
        rfl
    refine ⟨tp, rfl, ⟨rs, sqT_of h3⟩, ?_⟩
    have hz : rs.length < sizeLine := by
      rw [h4.len, sizeLine_eq]
      omega
    refine lc_pure (fun v => if (decP H v).1 = z then some (V.str (decP H v).2) else none) wk_tup (fun D acc nD => sqT_of (old_upd nD h3)) ?_ ?_
    · intro D i v acc nD hv ha
      obtain ⟨t, rfl, _, ht⟩ := h4.mem v (List.mem_of_getElem? hv)
      refine st_gtup (sqT_of (old_upd nD ht)) rfl ?_
      walk_at "ss"
      refine ⟨rfl, ?_⟩
      walk_at "ss"
      by_cases c : (decP H (.ref t)).1 = z
      · rw [decide_eq_true (congrArg V.str c)]
        refine iteT ?_
        walk_at "ss"
        exact pur_yes hz hv ha (if_pos c)
      · rw [decide_eq_false (fun e => c (V.str.inj e))]
        refine iteF ?_
        exact pur_no hv ha (if_neg c)
    · intro D nD
      rw [er]
      exact q D nD
end
end K42
namespace K42
open PySem PySem.Spec PyProof.Rows L2 TB LamX
open C8 (Cal pe_c Mak pe_mk Met pe_mt pe_mt0 pss_cut tCut pe_gc)
abbrev s_Order_behind : Stmt := inClass (top 9) 6
theorem sc_Order_behind : FnScope ["self", "one", "found", "left", "more", "other", "lock"] ["self", "one"] (defScope s_Order_behind) := ⟨rfl, rfl, rfl, by decide +kernel, rfl, by decide +kernel, by decide +kernel⟩
abbrev s_Order_leads : Stmt := inClass (top 9) 7
theorem sc_Order_leads : FnScope ["self", "one", "other"] ["self", "one", "other"] (defScope s_Order_leads) := ⟨rfl, rfl, rfl, by decide +kernel, rfl, by decide +kernel, by decide +kernel⟩
section
variable {P : Program} {w : World} {K : PySem.W.Frag} {mg : Str → Option Value} {base : Heap} {f C : Addr} {fd : FuncData}
theorem ok_Order_behind (F : FnM K "behind" "Order.behind" s_Order_behind [] f fd) (T : BltA mg) (oc : OrdC K C) (m_Order_want : Met P w K mg base 1 C "want" (spWant C) []) (m_Order_after : Met P w K mg base 1 C "after" (spAfter C) []) :
    FnOk P w K mg base CX0 2 f fd ["self", "one"] (spBehind C) := by
  refine fn_fg (sp := fun vs H Q _ => ∃ (x : Addr) (a : Str) (ls : List Str) (ps : List Pr), vs = [.ref x, .str a] ∧ OrdAt C H x ls ps ∧ OrdOk ls ps ∧ a ∈ ls ∧ NoT H ∧
    ∀ (p : Addr) (fs : List Str) (H' : Hp), H p = none → (∀ z, z ∈ fs ↔ Rch ps a z) → Kp [] H H' → H' p = some (.lst ((ls.filter fun z => decide (z ∈ fs)).map V.str)) → Q (.ref p) H') ?_ ?_
  · refine F.ok sc_Order_behind (fun vs H Q E h => ?_) (fun cdv A outer s H vs Q E hr h => ⟨_, PSs.nox
(pss_cons (ps_expr (pe_mt m_Order_want hr (by decide) (pv 0) (pa_cons (pv 1) pa_nil)))
  (pss_cons (ps_set (i := 2) sc_Order_behind.nd rfl (.inr rfl) (pe_lst pa_nil))
  (pss_cons (ps_set (i := 3) sc_Order_behind.nd rfl (.inl rfl) (pe_lst (pa_cons (pv 1) pa_nil)))
  (pss_cons (ps_while PassesOwn.never (pt_cmpR (op_neDK K hr.units) (pv 3) (pe_lst pa_nil) (nomark _))
    (pss_cons (ps_setLc (i := 4) (own := [("other", 5)]) rfl sc_Order_behind.nd rfl rfl (sw_true rfl rfl rfl (by decide +kernel)) (kPI K (pi_list (pe_mt m_Order_after hr (by decide) (pv 0) (pa_cons (kBM0 K (pe_bm0 PySem.F.plainAttrs_list PySem.F.slot_list_pop PySem.F.type_list_pop mt_pop (pv 3))) pa_nil)))) (blkOk_by (N := ["self", "one", "found", "left", "more", "other", "lock"]) (sc := defScope s_Order_behind) (by decide +kernel)) (fun _ _ _ _ _ => pg_name (i := 5) sc_Order_behind.nd rfl (Or.inl rfl)) (fun _ _ _ _ _ => pts_one (pt_cmpR (op_ninK K) (pv 5) (pv 2) rfl)) (fun _ _ _ _ _ => (pv 5)))
      (pss_cons (ps_expr (kBM K (pe_bm PySem.F.plainAttrs_list PySem.F.slot_list_extend PySem.F.type_list_extend mt_extend (pv 2) (pa_cons (pv 4) pa_nil))))
      (pss_one (ps_expr (kBM K (pe_bm PySem.F.plainAttrs_list PySem.F.slot_list_extend PySem.F.type_list_extend mt_extend (pv 3) (pa_cons (pv 4) pa_nil))))))))
  (pss_one (ps_ret (pe_lc (own := [("lock", 6)]) rfl sc_Order_behind.nd (kPT K (pi_tup (kFld K (pe_fld (pv 0) rfl)))) (blkOk_by (N := ["self", "one", "found", "left", "more", "other", "lock"]) (sc := defScope s_Order_behind) (by decide +kernel)) (fun _ _ _ _ _ => pg_name (i := 6) sc_Order_behind.nd rfl (Or.inl rfl)) (fun _ _ _ _ _ => pts_one (pt_cmpR (op_inK K) (pv 6) (pv 2) rfl)) (fun _ _ _ _ _ => (pv 6)))))))))
, ?_⟩)
    · obtain ⟨x, a, ls, ps, rfl, _⟩ := h
      rfl
    · obtain ⟨x, a, ls, ps, rfl, ho, hok, ha, nt, q⟩ := h
      obtain ⟨dx, tl, tp, rs, h1, h2, h3, h4⟩ := id ho
      walk_at "ss"
      refine ⟨x, dx, _, rfl, h1, rfl, ?_⟩
      walk_at "ss"
      refine ⟨x, a, ls, ps, rfl, ho, ha, ?_⟩
      walk_at "ss"
      refine ⟨Nat.zero_le _, fun fa nfa => ?_⟩
      walk_at "ss"
      refine ⟨(by show 1 ≤ sizeLine; decide), fun la nla => ?_⟩
      walk_at "ss"
      obtain ⟨nlf, nla0⟩ := nil_upd nla
      refine ⟨fun m σ H2 => ∃ (fs lf : List Str) (y4 y5 : Option V), σ = [some (.ref x), some (.str a), some (.ref fa), some (.ref la), y4, y5, none] ∧ Kp [] H H2 ∧ NoT H2 ∧ H2 fa = some (.lst (fs.map V.str)) ∧ H2 la = some (.lst (lf.map V.str)) ∧ m = 2 * (ls.length - fs.length) + lf.length ∧ BInv ls ps a fs lf ∧ lf.length + fs.length + fs.length ≤ 2 * fs.length + 2 * ls.length + 1 ∧ 2 * (ls.length - fs.length) + lf.length ≤ 2 * ls.length + 1,
        ⟨_, [], [a], none, none, rfl, ((Kp.refl H).new nfa).new nla, nt.lst.lst, oth_upd nlf.symm upd_same, upd_same, rfl, BInv.init, (by show 1 + 0 + 0 ≤ _; omega), (by show 2 * (ls.length - 0) + 1 ≤ _; omega)⟩, ?_⟩
      rintro m σ H2 ⟨fs, lf, y4, y5, rfl, k2, nt2, hfa, hla, rfl, bi, lb1, lb2⟩
      have nlf2 : ∀ z ∈ lf, Nm z := fun z hz => (bi.lft z hz).elim (fun e => by rw [e]; exact hok.nm a ha) (fun e => hok.nm z (bi.ins z e))
      walk_at "ss"
      refine ⟨Nat.zero_le _, fun e0 ne0 => ?_⟩
      refine st_neNil nlf2 (old_upd ne0 hla) upd_same ?_
      walk_at "ss"
      have k3 : Kp [] H (upd H2 e0 (.lst [])) := k2.new ne0
      have nt3 : NoT (upd H2 e0 (.lst [])) := nt2.lst
      replace hfa := old_upd (o := .lst []) ne0 hfa
      replace hla := old_upd (o := .lst []) ne0 hla
      generalize upd H2 e0 (.lst []) = H3 at k3 nt3 hfa hla ⊢
      have x3 : H3 x = _ := k3.same _ _ h1
      have ho3 : OrdAt C H3 x ls ps := ho.same k3.same
      rcases List.eq_nil_or_concat lf with e | ⟨lf', l, e⟩
      · subst e
        refine iteF ?_
        walk_at "ss"
        refine ⟨x, C, dx, _, _, rfl, x3, oc.cls, oc.nl, rfl, ?_⟩
        walk_at "ss"
        refine ⟨tl, rfl, ⟨_, (h2.keep fun ob u e => k3.same _ _ e).sq⟩, ?_⟩
        have hz : (ls.map V.str).length < sizeLine := by
          have := hok.len
          rw [List.length_map, sizeLine_eq]
          omega
        refine lc_pure (strF fun z => decide (z ∈ fs)) wk_tup (fun D acc nD => (h2.keep fun ob u e => old_upd nD (k3.same _ _ e)).sq) ?_ ?_
        · intro D i v acc nD hv hacc
          obtain ⟨z, _, rfl⟩ := List.mem_map.mp (List.mem_of_getElem? hv)
          walk_at "ss"
          refine ⟨rfl, ?_⟩
          walk_at "ss"
          refine st_inS (Or.inl (sqL_of (old_upd nD hfa))) ?_
          walk_at "ss"
          by_cases c : z ∈ fs
          · rw [decide_eq_true c]
            refine iteT ?_
            walk_at "ss"
            exact pur_yes hz hv hacc (strF_yes (decide_eq_true c))
          · rw [decide_eq_false c]
            refine iteF ?_
            exact pur_no hv hacc (strF_no (decide_eq_false c))
        · intro D nD
          rw [fm_filter]
          refine q D fs _ ?_ bi.done (k3.new nD) upd_same
          cases e : H D with
          | none => rfl
          | some o => rw [k3.same _ _ e] at nD; exact nomatch nD
      · rw [List.concat_eq_append] at e
        subst e
        rw [decide_eq_false (by simp)]
        refine iteT ⟨fun σ' H' => ∃ m', m' < 2 * (ls.length - fs.length) + (lf' ++ [l]).length ∧ ∃ (fs lf : List Str) (y4 y5 : Option V), σ' = [some (.ref x), some (.str a), some (.ref fa), some (.ref la), y4, y5, none] ∧ Kp [] H H' ∧ NoT H' ∧ H' fa = some (.lst (fs.map V.str)) ∧ H' la = some (.lst (lf.map V.str)) ∧ m' = 2 * (ls.length - fs.length) + lf.length ∧ BInv ls ps a fs lf ∧ lf.length + fs.length + fs.length ≤ 2 * fs.length + 2 * ls.length + 1 ∧ 2 * (ls.length - fs.length) + lf.length ≤ 2 * ls.length + 1, fun _ _ z => z, ?_⟩
        walk_at "ss"
        refine ⟨x, dx, _, rfl, x3, rfl, ?_⟩
        walk_at "ss"
        refine ⟨Or.inl ⟨rfl, _, sqL_of hla⟩, la, _, .str l, rfl, rfl, hla, by simp, ?_⟩
        walk_at "ss"
        have ed : ((lf' ++ [l]).map V.str).dropLast = lf'.map V.str := by simp
        rw [ed]
        refine ⟨x, l, ls, ps, rfl, ho3.lst hla, hok, fun p np => ?_⟩
        obtain ⟨npl, np3⟩ := nil_upd np
        have x4 : upd (upd H3 la (.lst (lf'.map V.str))) p (.lst ((afterP ps l).map V.str)) fa = some (.lst (fs.map V.str)) := old_upd np (oth_upd nlf.symm hfa)
        walk_at "ss"
        refine ⟨p, rfl, ⟨_, sqL_of upd_same⟩, ?_⟩
        have hz : ((afterP ps l).map V.str).length < sizeLine := by
          have h5 := hok.plen
          have h6 : (afterP ps l).length ≤ ps.length := List.length_filterMap_le _ _
          rw [List.length_map, sizeLine_eq]
          omega
        refine lc_pure (strF fun z => !decide (z ∈ fs)) wk_list (fun D acc nD => sqL_of (old_upd nD upd_same)) ?_ ?_
        · intro D i v acc nD hv hacc
          obtain ⟨z, _, rfl⟩ := List.mem_map.mp (List.mem_of_getElem? hv)
          walk_at "ss"
          refine ⟨rfl, ?_⟩
          walk_at "ss"
          refine st_ninS (Or.inl (sqL_of (old_upd nD x4))) ?_
          walk_at "ss"
          by_cases c : z ∈ fs
          · rw [decide_eq_true c]
            refine iteF ?_
            exact pur_no hv hacc (strF_no (by rw [decide_eq_true c]; rfl))
          · rw [decide_eq_false c]
            refine iteT ?_
            walk_at "ss"
            exact pur_yes hz hv hacc (strF_yes (by rw [decide_eq_false c]; rfl))
        · intro D nD
          rw [fm_filter]
          have em : (afterP ps l).filter (fun z => !decide (z ∈ fs)) = moreP ps fs l := rfl
          rw [em]
          obtain ⟨nDp, nD4⟩ := nil_upd nD
          obtain ⟨nDl, nD3⟩ := nil_upd nD4
          have bi2 := bi.step hok
          have h7 := nodup_le bi2.nd bi2.ins
          have h8 := hok.len
          rw [List.length_append] at h7
          have lD : upd (upd (upd H3 la (.lst (lf'.map V.str))) p (.lst ((afterP ps l).map V.str))) D (.lst ((moreP ps fs l).map V.str)) la = some (.lst (lf'.map V.str)) := old_upd nD (old_upd np upd_same)
          walk_at "ss"
          refine ⟨Or.inl ⟨rfl, _, sqL_of (old_upd nD x4)⟩, ?_⟩
          walk_at "ss"
          refine ⟨fa, D, _, _, rfl, rfl, old_upd nD x4, upd_same, ?_, ?_⟩
          · rw [List.length_map, List.length_map, sizeLine_eq]
            omega
          walk_at "ss"
          refine ⟨Or.inl ⟨rfl, _, sqL_of (oth_upd nlf lD)⟩, ?_⟩
          walk_at "ss"
          refine ⟨la, D, _, _, rfl, rfl, oth_upd nlf lD, oth_upd (fun e => by rw [e] at nD; rw [x4] at nD; exact nomatch nD) upd_same, ?_, ?_⟩
          · rw [List.length_append] at lb1
            rw [List.length_map, List.length_map, sizeLine_eq]
            omega
          walk_at "ss"
          have lss := bi2.less
          refine ⟨_, lss, _, _, _, _, rfl, ((((k3.own nla0).new np).new nD).own nfa).own nla0, nt3.lst.lst.lst.lst.lst, ?_, ?_, rfl, bi2, ?_, ?_⟩
          · rw [upd_ne nlf.symm, upd_same, List.map_append]
          · rw [upd_same, List.map_append]
          · omega
          · omega
  · rintro vs H Q E ⟨x, a, ls, ps, rfl, ho, hok, ha, nt, q⟩
    exact ⟨x, a, ls, ps, rfl, ho, hok, ha, nt, fun p fs H' np hf k e => ⟨_, Fg.one k.same nt np e trivial (fun _ => trivial), q p fs np hf⟩⟩
theorem ok_Order_leads (F : FnM K "leads" "Order.leads" s_Order_leads [] f fd) (T : BltA mg) (oc : OrdC K C) (m_Order_want : Met P w K mg base 1 C "want" (spWant C) []) (m_Order_behind : Met P w K mg base 2 C "behind" (spBehind C) []) :
    FnOk P w K mg base CX0 3 f fd ["self", "one", "other"] (spLeads C) := by
  refine fn_fg (sp := fun vs H Q _ => ∃ (x : Addr) (a b : Str) (ls : List Str) (ps : List Pr), vs = [.ref x, .str a, .str b] ∧ OrdAt C H x ls ps ∧ OrdOk ls ps ∧ a ∈ ls ∧ b ∈ ls ∧ NoT H ∧ ∀ (k : Bool) (H' : Hp), (k = true ↔ Rch ps a b) → Same H H' → Q (.bl k) H') ?_ ?_
  · refine F.ok sc_Order_leads (fun vs H Q E h => ?_) (fun cdv A outer s H vs Q E hr h => ⟨_, PSs.nox
(pss_cons (ps_expr (pe_mt m_Order_want hr (by decide) (pv 0) (pa_cons (pv 1) pa_nil)))
  (pss_cons (ps_expr (pe_mt m_Order_want hr (by decide) (pv 0) (pa_cons (pv 2) pa_nil)))
  (pss_one (ps_ret (pe_cmpR (op_inK K) (pv 2) (pe_mt m_Order_behind hr (by decide) (pv 0) (pa_cons (pv 1) pa_nil)) rfl)))))
, ?_⟩)
    · obtain ⟨x, a, b, ls, ps, rfl, _⟩ := h
      rfl
    · obtain ⟨x, a, b, ls, ps, rfl, ho, hok, ha, hb, nt, q⟩ := h
      obtain ⟨dx, tl, tp, rs, h1, h2, h3, h4⟩ := id ho
      walk_at "ss"
      refine ⟨x, dx, _, rfl, h1, rfl, ?_⟩
      walk_at "ss"
      refine ⟨x, a, ls, ps, rfl, ho, ha, ?_⟩
      walk_at "ss"
      refine ⟨x, dx, _, rfl, h1, rfl, ?_⟩
      walk_at "ss"
      refine ⟨x, b, ls, ps, rfl, ho, hb, ?_⟩
      walk_at "ss"
      refine ⟨x, dx, _, rfl, h1, rfl, ?_⟩
      walk_at "ss"
      refine ⟨x, a, ls, ps, rfl, ho, hok, ha, nt, fun p fs np hf => ?_⟩
      refine st_inS (Or.inl (sqL_of upd_same)) ?_
      refine q _ _ ?_ (fun c o e => old_upd np e)
      rw [decide_eq_true_iff, List.mem_filter, decide_eq_true_iff, hf]
      exact ⟨fun z => z.2, fun z => ⟨hb, z⟩⟩
  · rintro vs H Q E ⟨x, a, b, ls, ps, rfl, ho, hok, ha, hb, nt, q⟩
    exact ⟨x, a, b, ls, ps, rfl, ho, hok, ha, hb, nt, fun k H' hk sm => ⟨H, Fg.back sm nt, q k hk⟩⟩
end
end K42
namespace K42
open PySem PySem.Spec PyProof.Rows L2 TB LamX NdefX
open C8 (Cal pe_c Mak pe_mk Met pe_mt pe_mt0 pss_cut tCut pe_gc)
abbrev s_Order_with_pair : Stmt := inClass (top 9) 8
theorem sc_Order_with_pair : FnScope ["self", "one", "other", "locks", "pairs"] ["self", "one", "other"] (defScope s_Order_with_pair) := ⟨rfl, rfl, rfl, by decide +kernel, rfl, by decide +kernel, by decide +kernel⟩
section
variable {P : Program} {w : World} {K : PySem.W.Frag} {mg : Str → Option Value} {base : Heap} {f C : Addr} {fd : FuncData}
/-- the lambda's name -/
def lamQ : Str := (envOfC "Order.with_pair" (defScope s_Order_with_pair) 0 0 .none).qual ++ "<lambda>"
theorem ok_Order_with_pair {c T0 : Addr} (F : FnM K "with_pair" "Order.with_pair" s_Order_with_pair [] f fd) (hcd : fd.code = .ref c) (tb0 : TabB base mg c T0) (T : BltA mg) (oc : OrdC K C) (m_Order_has : Met P w K mg base 2 C "has" (spHas C) []) (m_Order_leads : Met P w K mg base 3 C "leads" (spLeads C) []) :
    FnOk P w K mg base CX0 4 f fd ["self", "one", "other"] (spWith C T0 lamQ) := by
  refine okC F hcd sc_Order_with_pair (fun vs H Q E h => ?_) (fun A outer s H vs Q E hr h => ⟨_, PSs.nox
    (pss_cons (ps_if (pt_val (pe_mt m_Order_has hr (by decide) (pv 0) (pa_cons (pv 1) (pa_cons (pv 2) pa_nil)))) (pss_one (ps_ret (kFld K (pe_fld (pv 0) rfl)))) pss_nil)
    (pss_cons (ps_if (PW.pt (pw_or (pt_cmpR op_eq (pv 1) (pv 2) (nomark _)) (pw_or1 (pt_val (pe_mt m_Order_leads hr (by decide) (pv 0) (pa_cons (pv 2) (pa_cons (pv 1) pa_nil))))))) (pss_one ps_never) pss_nil)
    (pss_cons (ps_set (i := 3) sc_Order_with_pair.nd rfl (.inr rfl) (kFld K (pe_fld (pv 0) rfl)))
    (pss_cons (ps_set (i := 4) sc_Order_with_pair.nd rfl (.inl rfl) (pe_op (op_catK K) (kFld K (pe_fld (pv 0) rfl)) (pe_tup (pa_cons (pe_tup (pa_cons (pv 1) (pa_cons (pv 2) pa_nil))) pa_nil))))
    (pss_one (ps_ret (pe_callTy (call_tupK K) (by rfl) T.b_tuple (by decide +kernel) (pa_cons
      (pe_sortedLam (N := ["pair", "locks"]) (fr := ["locks"]) (x0 := "pair") (js := [3]) (k := 0) tb0 rfl rfl (ndef_free (sc := defScope s_Order_with_pair) (fr := ["locks"]) (by decide +kernel)) (ndef_fr (sc := defScope s_Order_with_pair) (by decide +kernel)) rfl (nscope_by (by decide +kernel)) hr (fun _ _ _ _ _ => rfl)
        (fun cl c' f A outer s' H' hr' => pe_tup (pa_cons (pe_bmT PySem.F.slot_tuple_index PySem.F.type_tuple_index (mt_tupIxK K) (pv 1) (pa_cons (pe_ix (ix_tupK K) (pv 0) pe_int (fun _ _ => rfl)) pa_nil))
          (pa_cons (pe_bmT PySem.F.slot_tuple_index PySem.F.type_tuple_index (mt_tupIxK K) (pv 1) (pa_cons (pe_ix (ix_tupK K) (pv 0) pe_int (fun _ _ => rfl)) pa_nil)) pa_nil)))
        (by rfl) T.b_sorted (by decide +kernel) (pa_cons (pv 4) pa_nil)) pa_nil))))))))
, ?_⟩)
  · obtain ⟨x, a, b, ls, ps, rfl, _⟩ := h
    rfl
  · obtain ⟨x, a, b, ls, ps, rfl, ho, hok, ha, hb, ne, nr, nt, tb, q⟩ := h
    obtain ⟨dx, tl, tp, rs, h1, h2, h3, h4⟩ := id ho
    walk_at "ss"
    refine ⟨x, dx, _, rfl, h1, rfl, ?_⟩
    walk_at "ss"
    refine ⟨x, a, b, ls, ps, rfl, ho, hok, ha, hb, nt, ?_⟩
    walk_at "ss"
    by_cases m : (a, b) ∈ ps
    · rw [decide_eq_true m]
      refine iteT ?_
      walk_at "ss"
      refine ⟨x, C, dx, _, _, rfl, h1, oc.cls, oc.np, rfl, ?_⟩
      refine q H tp rs ps (Tg.refl tb) h3 h4 hok (fun z => ⟨Or.inl, fun e => e.elim id (fun e => by rw [e]; exact m)⟩)
    · rw [decide_eq_false m]
      refine iteF ?_
      walk_at "ss"
      rw [decide_eq_false (fun e => ne (V.str.inj e))]
      refine iteF ?_
      walk_at "ss"
      refine ⟨x, dx, _, rfl, h1, rfl, ?_⟩
      walk_at "ss"
      refine ⟨x, b, a, ls, ps, rfl, ho, hok, hb, ha, nt, fun k hk => ?_⟩
      obtain rfl : k = false := by
        cases k with
        | false => rfl
        | true => exact absurd (hk.mp rfl) nr
      walk_at "ss"
      refine iteF ?_
      walk_at "ss"
      refine ⟨x, C, dx, _, _, rfl, h1, oc.cls, oc.nl, rfl, ?_⟩
      walk_at "ss"
      refine ⟨x, C, dx, _, _, rfl, h1, oc.cls, oc.np, rfl, ?_⟩
      walk_at "ss"
      refine ⟨(by show 2 ≤ sizeLine; decide), fun t1 nt1 => ?_⟩
      walk_at "ss"
      refine ⟨(by show 1 ≤ sizeLine; decide), fun t2 nt2 => ?_⟩
      have pl := hok.plen
      refine st_catP (old_upd nt2 (old_upd nt1 h3)) upd_same ?_ (by simp) ?_
      · rw [h4.len, sizeLine_eq]
        show ps.length + 1 ≤ _
        omega
      intro tq H1 sm1 ntt htq
      have s1 : Same H H1 := fun c o e => sm1 c o (old_upd nt2 (old_upd nt1 e))
      have e1 : H1 t1 = some (.tup [.str a, .str b]) := sm1 _ _ (old_upd nt2 upd_same)
      have n1 : NoT H1 := ntt (NoT.tup (NoT.tup nt))
      have tb1 : TabS H1 T0 lamQ := tb.ext s1
      have pr1 : Prs H1 (rs ++ [.ref t1]) (ps ++ [(a, b)]) := (h4.keep fun c xs e => s1 _ _ e).app (.cons ⟨t1, rfl, e1⟩ .nil)
      have okm : ∀ p ∈ ps ++ [(a, b)], p.1 ∈ ls ∧ p.2 ∈ ls := by
        intro p hp
        rcases List.mem_append.mp hp with e | e
        · exact hok.mem p e
        · rw [List.mem_singleton.mp e]
          exact ⟨ha, hb⟩
      walk_at "ss"
      refine ⟨tq, rs ++ [.ref t1], fun v => keyP ls (decP H1 v), rfl, sqT_of htq, pr1.refs, tb1, ?_, ?_⟩
      · intro y hy H2 ext Q' hQ
        obtain ⟨t, rfl, hm, ht⟩ := pr1.mem y hy
        have ht2 := ext _ _ ht (fun ps => by simp)
        have hl2 : LkAt H2 tl ls := h2.keep fun ob u e => ext _ _ (s1 _ _ e) (fun ps => by simp)
        obtain ⟨i1, i2⟩ := ixS_at (okm _ hm).1
        obtain ⟨j1, j2⟩ := ixS_at (okm _ hm).2
        walk_at "ss"
        refine ⟨⟨tl, ls, rfl, hl2⟩, ?_⟩
        walk_at "ss"
        refine st_ixT (sqT_of ht2) rfl ?_
        walk_at "ss"
        refine ⟨tl, ls, _, _, rfl, rfl, hl2.sq, i1, i2, ?_⟩
        walk_at "ss"
        refine ⟨⟨tl, ls, rfl, hl2⟩, ?_⟩
        walk_at "ss"
        refine st_ixT (sqT_of ht2) rfl ?_
        walk_at "ss"
        refine ⟨tl, ls, _, _, rfl, rfl, hl2.sq, j1, j2, ?_⟩
        walk_at "ss"
        exact ⟨(by show 2 ≤ sizeLine; decide), hQ⟩
      · intro ys D H3 pm sr tg nD hD
        walk_at "ss"
        refine ⟨D, ys, rfl, Or.inl ⟨sqL_of hD, fun l nl => ?_⟩⟩
        have hp2 : (ys.map (decP H1)).Perm (ps ++ [(a, b)]) := by
          rw [pr1.dec]
          exact pm.map _
        have hs2 : SortP ls (ys.map (decP H1)) := List.pairwise_map.mpr sr
        obtain ⟨o1, o2⟩ := hok.add ha hb m hp2 hs2
        refine q _ l ys (ys.map (decP H1)) ?_ upd_same (prs_map fun y hy => ?_) o1 o2
        · exact Tg.new (Tg.trans ⟨fun c o e _ => s1 c o e, tb1, fun _ => n1⟩ tg) nl trivial
        · obtain ⟨t, e, _, ht⟩ := pr1.mem y (pm.mem_iff.mp hy)
          exact ⟨t, e, old_upd nl (tg.at tb1 ht (fun ps => by simp))⟩
end
end K42
namespace K42
open PySem PySem.Spec PyProof.Rows L2 TB LamX NdefX
open C8 (Cal pe_c Mak pe_mk Met pe_mt pe_mt0 pss_cut tCut pe_gc)
abbrev s_Order___init__ : Stmt := inClass (top 9) 0
theorem sc_Order___init__ : FnScope ["self", "locks", "pairs", "one", "other"] ["self", "locks", "pairs"] (defScope s_Order___init__) := ⟨rfl, rfl, rfl, by decide +kernel, rfl, by decide +kernel, by decide +kernel⟩
abbrev s_Order_added : Stmt := inClass (top 9) 9
theorem sc_Order_added : FnScope ["self", "one", "other", "found"] ["self", "one", "other"] (defScope s_Order_added) := ⟨rfl, rfl, rfl, by decide +kernel, rfl, by decide +kernel, by decide +kernel⟩
section
variable {P : Program} {w : World} {K : PySem.W.Frag} {mg : Str → Option Value} {base : Heap} {f C : Addr} {fd : FuncData}
theorem ok_Order___init__ {dvs : List V} (F : FnM K "__init__" "Order.__init__" s_Order___init__ dvs f fd) (T : BltA mg) (oc : OrdC K C) : FnOk P w K mg base CX0 1 f fd ["self", "locks", "pairs"] (spInit K C) := by
  refine F.ok sc_Order___init__ (fun vs H Q E h => ?_) (fun cdv A outer s H vs Q E hr h => ⟨_, PSs.nox
(pss_cons (kSFld K (ps_fld (pv 0) (pe_callTy (call_tupF K) (by rfl) T.b_tuple (by decide +kernel) (pa_cons (pv 1) pa_nil)) rfl))
  (pss_cons (kSFld K (ps_fld (pv 0) (pe_tup pa_nil) rfl))
  (pss_one (ps_for PassesOwn.never rfl (kPT K (pi_tup (pv 2))) (kTup K 2 (pg_tup rfl (pgs_cons (pg_name (i := 3) sc_Order___init__.nd rfl (.inl rfl)) (pgs_cons (pg_name (i := 4) sc_Order___init__.nd rfl (.inl rfl)) pgs_nil))))
    (pss_one ps_never)))))
, ?_⟩)
  · obtain ⟨x, dx, l, d, ls, rfl, _⟩ := h
    rfl
  · obtain ⟨x, dx, l, d, ls, rfl, h1, h2, h3, q⟩ := h
    walk_at "ss"
    refine st_tupF h2 ?_
    intro tl H1 sm n1 lk
    walk_at "ss"
    refine ⟨x, C, dx, _, rfl, sm _ _ h1, oc.cls, oc.nl, by decide, ?_⟩
    walk_at "ss"
    refine ⟨Nat.zero_le _, fun tp ntp => ?_⟩
    walk_at "ss"
    obtain ⟨ntx, ntp1⟩ := nil_upd ntp
    refine ⟨x, C, dx, _, rfl, old_upd ntp upd_same, oc.cls, oc.np, (by show 1 < 1000; decide), ?_⟩
    have k1 : Kp [x] H (upd (upd (upd H1 x (.ins C dx (putF "own_locks" (.ref tl) []))) tp (.tup [])) x (.ins C dx (putF "own_pairs" (.ref tp) (putF "own_locks" (.ref tl) [])))) := ((((show Kp [x] H H1 from fun b o e _ => sm b o e).mut (by simp)).new ntp).mut (by simp))
    walk_at "ss"
    refine ⟨d, rfl, ⟨[], h3 _⟩, ?_⟩
    refine for_walk (wk_tup (xs := [])) (fun _ σ H2 => H2 = (upd (upd (upd H1 x (.ins C dx (putF "own_locks" (.ref tl) []))) tp (.tup [])) x (.ins C dx (putF "own_pairs" (.ref tp) (putF "own_locks" (.ref tl) []))))) rfl ?_ ?_ ?_
    · rintro i σ H2 _
      exact h3 _
    · intro i v σ H2 hv
      exact nomatch hv
    · rintro σ H2 rfl
      refine q _ k1 ?_ ⟨dx, tl, tp, [], upd_same, ?_, ?_, .nil⟩
      · intro z
        exact NoT.upd (o := .ins _ _ _) (NoT.upd (o := .tup _) (NoT.upd (o := .ins _ _ _) (n1 z) trivial) trivial) trivial
      · have hx : ∀ ob u, H1 tl = some (.frz ob u) → tl ≠ x := fun ob u e z => by
          rw [z, sm _ _ h1] at e
          exact nomatch e
        refine lk.keep fun ob u e => ?_
        rw [upd_ne (hx ob u e), upd_ne (ne_of_none e ntp1), upd_ne (hx ob u e)]
        exact e
      · rw [upd_ne ntx, upd_same]
theorem ok_Order_added {T0 d : Addr} (F : FnM K "added" "Order.added" s_Order_added [] f fd) (T : BltA mg) (oc : OrdC K C) (hd : ∀ H, SqT K H d []) (m_Order : Mak P w K mg base 1 "Order" C (spInit K C) [.ref d]) (m_Order_with_pair : Met P w K mg base 4 C "with_pair" (spWith C T0 lamQ) []) :
    FnOk P w K mg base CX0 5 f fd ["self", "one", "other"] (spAdded C T0 lamQ) := by
  refine F.ok sc_Order_added (fun vs H Q E h => ?_) (fun cdv A outer s H vs Q E hr h => ⟨_, PSs.nox
(pss_cons (ps_set (i := 3) sc_Order_added.nd rfl (.inl rfl) (pe_mk m_Order hr (by decide) (by rfl) (pa_cons (kFld K (pe_fld (pv 0) rfl)) pa_nil)))
  (pss_cons (kSFld K (ps_fld (pv 3) (pe_mt m_Order_with_pair hr (by decide) (pv 0) (pa_cons (pv 1) (pa_cons (pv 2) pa_nil))) rfl))
  (pss_one (ps_ret (pv 3)))))
, ?_⟩)
  · obtain ⟨x, a, b, ls, ps, rfl, _⟩ := h
    rfl
  · obtain ⟨x, a, b, ls, ps, rfl, ho, hok, ha, hb, ne, nr, nt, tb, q⟩ := h
    obtain ⟨dx, tl, tp, rs, h1, h2, h3, h4⟩ := id ho
    walk_at "ss"
    refine ⟨x, C, dx, _, _, rfl, h1, oc.cls, oc.nl, rfl, ?_⟩
    walk_at "ss"
    intro y dy ny ndy nyy
    have nb : ∀ b o, H b = some o → b ≠ y ∧ b ≠ dy := fun b o e => ⟨ne_of_none e ny, ne_of_none e ndy⟩
    have s0 : Same H (upd (upd H dy (.own y)) y (.ins C dy [])) := fun b o e => by
      rw [upd_ne (nb b o e).1, upd_ne (nb b o e).2]
      exact e
    refine ⟨y, dy, tl, d, ls, rfl, upd_same, Or.inr (h2.keep fun _ _ e => s0 _ _ e), hd, ?_⟩
    intro H2 k2 n2 oy
    refine ⟨rfl, ?_⟩
    have s2 : Same H H2 := fun b o e => k2 b o (s0 b o e) (fun m => (nb b o e).1 (List.mem_singleton.mp m))
    have nt2 : NoT H2 := n2 (NoT.upd (o := .ins C dy []) (NoT.upd (o := .own y) nt trivial) trivial)
    have ho2 : OrdAt C H2 x ls ps := ho.same s2
    have tb2 : TabS H2 T0 lamQ := tb.ext s2
    walk_at "ss"
    refine ⟨x, dx, _, rfl, s2 _ _ h1, rfl, ?_⟩
    walk_at "ss"
    refine ⟨x, a, b, ls, ps, rfl, ho2, hok, ha, hb, ne, nr, nt2, tb2, ?_⟩
    intro H3 t rs3 qs tg ht hp hq hm
    obtain ⟨dy3, tl3, tp3, rs0, y1, y2, y3, y4⟩ := OrdAt.tg oy tg tb2
    walk_at "ss"
    refine ⟨y, C, dy3, _, rfl, y1, oc.cls, oc.np, (by show 2 < 1000; decide), ?_⟩
    walk_at "ss"
    have kt : ∀ c o, H3 c = some o → (∀ C dx fs, o ≠ .ins C dx fs) → upd H3 y (.ins C dy3 (putF "own_pairs" (.ref t) [("own_locks", .ref tl3), ("own_pairs", .ref tp3)])) c = some o := by
      intro c o e n
      refine oth_upd (fun z => ?_) e
      rw [z, y1] at e
      exact n _ _ _ (Option.some.inj e).symm
    refine q _ y qs ⟨?_, TB.TabS.mutI tg.tab y1, fun _ => (tg.nt nt2).upd trivial⟩ ⟨dy3, tl3, t, rs3, upd_same, y2.keep (fun ob u e => kt _ _ e (fun _ _ _ z => nomatch z)), kt _ _ ht (fun _ _ _ z => nomatch z), hp.keep (fun c xs e => kt _ _ e (fun _ _ _ z => nomatch z))⟩ hq hm ny
    intro b' o e m
    exact oth_upd (nb _ _ e).1 (tg.kp _ _ (s2 _ _ e) m)
end
end K42
namespace K42
open PySem PySem.Spec PyProof.Rows L2 TB
open C8 (Cal pe_c Mak pe_mk Met pe_mt pe_mt0 pss_cut tCut pe_gc)
abbrev s__law_pot : Stmt := top 11
theorem sc__law_pot : FnScope ["_law_script", "_law_k", "_law_cell"] ["_law_script", "_law_k"] (defScope s__law_pot) := ⟨rfl, rfl, rfl, by decide +kernel, rfl, by decide +kernel, by decide +kernel⟩
abbrev s__law_draw : Stmt := top 12
theorem sc__law_draw : FnScope ["_law_pot_here", "_law_many", "_law_digit"] ["_law_pot_here", "_law_many"] (defScope s__law_draw) := ⟨rfl, rfl, rfl, by decide +kernel, rfl, by decide +kernel, by decide +kernel⟩
section
variable {P : Program} {w : World} {K : PySem.W.Frag} {mg : Str → Option Value} {base : Heap} {f : Addr} {fd : FuncData}
def spDraw0 : Sp := fun vs H Q _ => ∃ (p : Addr) (m a b : Int), vs = [.ref p, .int m] ∧ H p = some (.lst [.int a, .int b]) ∧ 0 ≤ a ∧ 0 ≤ b ∧ b < 2147483647 ∧ 0 < m ∧ m < 2 ^ 64 ∧
  ∀ (H' : Hp) (a' b' d : Int), 0 ≤ a' → 0 ≤ b' → b' < 2147483647 → H' p = some (.lst [.int a', .int b']) → Kp [p] H H' → 0 ≤ d → d < m → Q (.int d) H'
def spDraw : Sp := fun vs H Q _ => ∃ (p : Addr) (m : Int), vs = [.ref p, .int m] ∧ H p = some (PotO p) ∧ NoT H ∧ 0 < m ∧ m < 2 ^ 64 ∧ ∀ d : Int, 0 ≤ d → d < m → Q (.int d) H
theorem ok_draw0 (F : FnP K "_law_draw" s__law_draw f fd) (T : BltA mg) : FnOk P w K mg base CX0 1 f fd ["_law_pot_here", "_law_many"] spDraw0 := by
  refine F.ok sc__law_draw (fun vs H Q E h => ?_) (fun cdv A outer s H vs Q E hr h => ⟨_, PSs.nox 
(pss_cons (ps_if (pt_cmpR op_gt (pe_ix ix_list (pv 0) pe_int (fun _ _ => rfl)) pe_int (nomark _))
    (pss_cons (ps_asg (pe_callB call_divmodW (by rfl) T.b_divmod (by decide +kernel) (pa_cons (pe_ix ix_list (pv 0) pe_int (fun _ _ => rfl)) (pa_cons (pv 1) pa_nil))) (pg_tup rfl (pgs_cons (pg_sub (pv 0) pe_int set_list) (pgs_cons (pg_name (i := 2) sc__law_draw.nd rfl (.inl rfl)) pgs_nil))))
      (pss_one (ps_ret (pv 2))))
    pss_nil)
  (pss_cons (ps_asg (pe_op op_mod (pe_op op_add (pe_op op_mul (pe_ix ix_list (pv 0) pe_int (fun _ _ => rfl)) pe_int) pe_int) pe_int) (pg_sub (pv 0) pe_int set_list))
  (pss_one (ps_ret (pe_op op_mod (pe_op op_fdiv (pe_op op_mod (pe_op op_mul (pe_ix ix_list (pv 0) pe_int (fun _ _ => rfl)) (pe_ix ix_list (pv 0) pe_int (fun _ _ => rfl))) pe_int) pe_int) (pv 1)))))), ?_⟩)
  · obtain ⟨p, m, a, b, rfl, _⟩ := h
    rfl
  · obtain ⟨p, m, a, b, rfl, hp, ha, hb, hb2, hm, hm2, q⟩ := h
    walk_at "ss"
    refine st_ixL (sqL_of hp) rfl ?_
    walk_at "ss"
    refine ite2 (fun c => ?_) (fun c => ?_)
    · walk_at "ss"
      refine st_ixL (sqL_of hp) rfl ?_
      walk_at "ss"
      refine ⟨_, _, rfl, cdivP hm hm2, fun t nt => ?_⟩
      refine st_gtup (sqT_of upd_same) rfl ?_
      walk_at "ss"
      refine st_setL (old_upd nt hp) rfl ?_
      walk_at "ss"
      refine q _ (a / m) b (a % m) (Int.ediv_nonneg ha (by omega)) hb hb2 (by rw [upd_same]; rfl) (((Kp.refl H).new nt).mut (by simp)) (Int.emod_nonneg _ (by omega)) (Int.emod_lt_of_pos _ hm)
    · walk_at "ss"
      refine st_ixL (sqL_of hp) rfl ?_
      walk_at "ss"
      refine st_I (Or.inr ⟨by decide, by decide⟩) ?_
      walk_at "ss"
      refine st_I (by show (0 : Int) < 2147483647; decide) ?_
      walk_at "ss"
      refine st_setL hp rfl ?_
      have h0 : 0 ≤ (b * 48271 + 30011) % 2147483647 := Int.emod_nonneg _ (by decide)
      have h1 : (b * 48271 + 30011) % 2147483647 < 2147483647 := Int.emod_lt_of_pos _ (by decide)
      revert h0 h1
      generalize (b * 48271 + 30011) % 2147483647 = c1
      intro h0 h1
      walk_at "ss"
      refine st_ixL (sqL_of upd_same) rfl ?_
      walk_at "ss"
      refine st_ixL (sqL_of upd_same) rfl ?_
      walk_at "ss"
      refine st_I (Or.inl ⟨by omega, by omega⟩) ?_
      walk_at "ss"
      refine st_I (by show (0 : Int) < 2147483629; decide) ?_
      walk_at "ss"
      refine st_I ⟨by decide, by decide⟩ ?_
      walk_at "ss"
      refine st_I (show (0 : Int) < m from hm) ?_
      exact q _ a c1 _ ha h0 h1 (by rw [upd_same]; rfl) ((Kp.refl H).mut (by simp)) (Int.emod_nonneg _ (by omega)) (Int.emod_lt_of_pos _ hm)
theorem ok_draw (F : FnP K "_law_draw" s__law_draw f fd) (T : BltA mg) : FnOk P w K mg base CX0 1 f fd ["_law_pot_here", "_law_many"] spDraw := by
  refine fn_pot (ok_draw0 F T) fun vs H Q E h => ?_
  obtain ⟨p, m, rfl, hp, nt, hm, hm2, q⟩ := h
  refine ⟨p, hp, fun a b ha hb hb2 => ⟨p, m, a, b, rfl, upd_same, ha, hb, hb2, hm, hm2, fun H' a' b' d h1 h2 h3 h4 h5 h6 h7 => ⟨a', b', h1, h2, h3, h4, H, Fg.back (fun c o e => ?_) nt, q d h6 h7⟩⟩⟩
  by_cases z : c = p
  · rw [z, upd_same, ← e, z]
    exact hp.symm
  · exact oth_upd z (h5 c o (oth_upd z e) (by simp [z]))
def spPot0 (K : PySem.W.Frag) : Sp := fun vs H Q _ => ∃ (l : Addr) (ns : List Int) (k : Int), vs = [.ref l, .int k] ∧ SqL K H l (ns.map V.int) ∧ 0 ≤ k ∧ k < 1000 ∧
  ∀ (p : Addr) (a b : Int), H p = none → 0 ≤ a → 0 ≤ b → b < 2147483647 → Q (.ref p) (upd H p (.lst [.int a, .int b]))
def spPot (K : PySem.W.Frag) : Sp := fun vs H Q _ => ∃ (l : Addr) (ns : List Int) (k : Int), vs = [.ref l, .int k] ∧ SqL K H l (ns.map V.int) ∧ 0 ≤ k ∧ k < 1000 ∧ NoT H ∧ ∀ p : Addr, H p = none → Q (.ref p) (upd H p (PotO p))
theorem ok_pot0 (F : FnP K "_law_pot" s__law_pot f fd) (T : BltA mg) : FnOk P w K mg base CX0 1 f fd ["_law_script", "_law_k"] (spPot0 K) := by
  refine F.ok sc__law_pot (fun vs H Q E h => ?_) (fun cdv A outer s H vs Q E hr h => ⟨_, PSs.nox 
(pss_cons (ps_set (i := 2) sc__law_pot.nd rfl (.inl rfl) (pe_ifExp (pt_cmpR op_lt (pv 1) (pe_callB call_len_seq (by rfl) T.b_len PySem.boot_len (pa_cons (pv 0) pa_nil)) (nomark _)) (pe_ix ix_list (pv 0) (pv 1) (fun _ _ => rfl)) pe_int))
  (pss_one (ps_ret (pe_lst (pa_cons (pe_callB (call_max2 rfl) (by rfl) T.b_max (by decide +kernel) (pa_cons pe_int (pa_cons (pe_op op_sub (pe_callB call_abs (by rfl) T.b_abs (by decide +kernel) (pa_cons (pv 2) pa_nil)) (pe_op op_pow pe_int pe_int)) pa_nil))) (pa_cons (pe_op op_mod (pe_op op_add (pe_op op_add (pe_op op_mul (pe_op op_mod (pe_callB call_abs (by rfl) T.b_abs (by decide +kernel) (pa_cons (pv 2) pa_nil)) pe_int) pe_int) (pe_op op_mul pe_int (pv 1))) pe_int) pe_int) pa_nil)))))), ?_⟩)
  · obtain ⟨l, ns, k, rfl, _⟩ := h
    rfl
  · obtain ⟨l, ns, k, rfl, hl, hk, hk2, q⟩ := h
    walk_at "ss"
    refine ⟨_, _, rfl, Or.inl hl, ?_⟩
    walk_at "ss"
    have key : ∀ c : Int, (tRet (tLst (tCons (tCB (fun xs H Q => ∃ i j, xs = [V.int i, V.int j] ∧ Q (.int (if j > i then j else i)) H) (tCons (tC (.int 0)) (tCons (tOp (rI0 fun i j => .int (i - j)) (tCB (fun xs H Q => ∃ i, xs = [V.int i] ∧ Q (.int (if i < 0 then -i else i)) H) (tCons (tVar 2) tNil)) (tOp (rI CPow fun i j => .int (i ^ j.toNat)) (tC (.int 10)) (tC (.int 18)))) tNil))) (tCons (tOp (rI (fun _ j => 0 < j) fun i j => .int (i % j)) (tOp (rI0 fun i j => .int (i + j)) (tOp (rI0 fun i j => .int (i + j)) (tOp (rI CMul fun i j => .int (i * j)) (tOp (rI (fun _ j => 0 < j) fun i j => .int (i % j)) (tCB (fun xs H Q => ∃ i, xs = [V.int i] ∧ Q (.int (if i < 0 then -i else i)) H) (tCons (tVar 2) tNil)) (tC (.int 2147483579))) (tC (.int 44021))) (tOp (rI CMul fun i j => .int (i * j)) (tC (.int 6151)) (tVar 1))) (tC (.int 97))) (tC (.int 2147483647))) tNil)))) { nx := fun _ H' => Q .non H', rt := Q } [some (.ref l), some (.int k), some (.int c)] H := by
      intro c
      walk_at "ss"
      refine ⟨_, rfl, ?_⟩
      walk_at "ss"
      refine st_I ⟨by decide, by decide, by decide⟩ ?_
      walk_at "ss"
      refine ⟨_, _, rfl, ?_⟩
      walk_at "ss"
      refine ⟨_, rfl, ?_⟩
      walk_at "ss"
      refine st_I (by show (0 : Int) < 2147483579; decide) ?_
      walk_at "ss"
      refine st_I (Or.inr ⟨by decide, by decide⟩) ?_
      walk_at "ss"
      refine st_I (Or.inl ⟨by decide, by decide⟩) ?_
      walk_at "ss"
      refine st_I (by show (0 : Int) < 2147483647; decide) ?_
      refine ⟨(by show 2 ≤ sizeLine; decide), fun p np => q p _ _ np ?_ (Int.emod_nonneg _ (by decide)) (Int.emod_lt_of_pos _ (by decide))⟩
      split <;> omega
    refine ite2 (fun c => ?_) (fun c => ?_)
    · walk_at "ss"
      have hk3 : k.toNat < ns.length := by
        have c1 := of_decide_eq_true c
        rw [List.length_map] at c1
        omega
      refine st_ixL hl (at_of (j := k.toNat) (v := .int ns[k.toNat]) (by omega) (by rw [List.getElem?_map, List.getElem?_eq_getElem hk3]; rfl)) ?_
      exact key _
    · exact key 0
theorem ok_pot (F : FnP K "_law_pot" s__law_pot f fd) (T : BltA mg) : FnOk P w K mg base CX0 1 f fd ["_law_script", "_law_k"] (spPot K) := by
  refine fn_mkpot (ok_pot0 F T) fun vs H Q E h => ?_
  obtain ⟨l, ns, k, rfl, hl, hk, hk2, nt, q⟩ := h
  refine ⟨l, ns, k, rfl, hl, hk, hk2, fun p a b np ha hb hb2 => ⟨p, a, b, ha, hb, hb2, np, upd_same, upd H p (PotO p), ?_, q p np⟩⟩
  rw [upd_upd]
  exact Fg.one ((Kp.refl (ls := []) H).new np).same nt np upd_same trivial (fun _ => trivial)
end
end K42
namespace K42
open PySem PySem.Spec PyProof.Rows L2 TB
open C8 (Cal pe_c Mak pe_mk Met pe_mt pe_mt0 pss_cut tCut pe_gc)
abbrev s__law_name : Stmt := top 13
theorem sc__law_name : FnScope ["_law_pot_here", "_law_taken", "_law_letters", "_law_size", "_law_word", "_law_k", "_law_letter"] ["_law_pot_here", "_law_taken"] (defScope s__law_name) := ⟨rfl, rfl, rfl, by decide +kernel, rfl, by decide +kernel, by decide +kernel⟩
section
variable {P : Program} {w : World} {K : PySem.W.Frag} {mg : Str → Option Value} {base : Heap} {f : Addr} {fd : FuncData}
/-- a name is drawn that is not among ws, and put behind them -/
def spName : Sp := fun vs H Q _ => ∃ (p l : Addr) (ws : List Str), vs = [.ref p, .ref l] ∧ H p = some (PotO p) ∧ H l = some (.lst (ws.map V.str)) ∧ NoT H ∧ ws.length < 26 ∧
  ∀ z : Str, Nm z → z ∉ ws → Q (.str z) (upd H l (.lst ((ws ++ [z]).map V.str)))
def spName0 : Sp := fun vs H Q _ => ∃ (p l : Addr) (ws : List Str), vs = [.ref p, .ref l] ∧ H p = some (PotO p) ∧ H l = some (.lst (ws.map V.str)) ∧ NoT H ∧ ws.length < 26 ∧
  ∀ (z : Str) (H' : Hp), Nm z → z ∉ ws → Kp [l] H H' → H' l = some (.lst ((ws ++ [z]).map V.str)) → Q (.str z) H'
theorem ok_name0 (F : FnP K "_law_name" s__law_name f fd) (T : BltA mg) (c__law_draw : Cal P w K mg base 1 "_law_draw" spDraw []) : FnOk P w K mg base CX0 2 f fd ["_law_pot_here", "_law_taken"] spName0 := by
  refine F.ok sc__law_name (fun vs H Q E h => ?_) (fun cdv A outer s H vs Q E hr h => ⟨_, PSs.nox 
(pss_cons (ps_set (i := 2) sc__law_name.nd rfl (.inr rfl) pe_str)
  (pss_cons (ps_set (i := 3) sc__law_name.nd rfl (.inl rfl) (pe_ix (ix_listK K) (pe_lst (pa_cons pe_int (pa_cons pe_int (pa_cons pe_int (pa_cons pe_int (pa_cons (pe_op op_add pe_int (pe_c c__law_draw hr (by decide) (by rfl) (pa_cons (pv 0) (pa_cons pe_int pa_nil)))) pa_nil)))))) (pe_c c__law_draw hr (by decide) (by rfl) (pa_cons (pv 0) (pa_cons pe_int pa_nil))) (fun _ _ => rfl)))
  (pss_cons (ps_set (i := 4) sc__law_name.nd rfl (.inl rfl) (pe_joinK K pe_str (pe_lc (own := [("_law_k", 5)]) (tt := tYes) rfl sc__law_name.nd (pi_range1 (by rfl) T.b_range (pa_cons (pv 3) pa_nil)) (blkOk_by (N := ["_law_pot_here", "_law_taken", "_law_letters", "_law_size", "_law_word", "_law_k", "_law_letter"]) (sc := defScope s__law_name) (by decide +kernel)) (fun _ _ _ _ _ => pg_name (i := 5) sc__law_name.nd rfl (Or.inl rfl)) (fun _ _ _ _ _ => pts_nil) (fun _ _ _ _ _ => (pe_ix ix_str (pv 2) (pe_c c__law_draw hr (by decide) (by rfl) (pa_cons (pv 0) (pa_cons pe_int pa_nil))) (fun _ _ => rfl))))))
  (pss_cut (ps_if (pt_cmpR op_eq (pe_c c__law_draw hr (by decide) (by rfl) (pa_cons (pv 0) (pa_cons pe_int pa_nil))) pe_int (nomark _))
    (pss_one (ps_set (i := 4) sc__law_name.nd rfl (.inl rfl) (pe_ix (ix_listK K) (pe_lst (pa_cons pe_str (pa_cons pe_str (pa_cons pe_str (pa_cons pe_str (pa_cons pe_str (pa_cons pe_str (pa_cons pe_str (pa_cons pe_str pa_nil))))))))) (pe_c c__law_draw hr (by decide) (by rfl) (pa_cons (pv 0) (pa_cons pe_int pa_nil))) (fun _ _ => rfl))))
    pss_nil)
  (pss_cut (ps_if (pt_cmpR (op_inK K) (pv 4) (pv 1) rfl)
    (pss_one (ps_set (i := 4) sc__law_name.nd rfl (.inl rfl) (pe_ix (ix_listK K) (pe_lc (own := [("_law_letter", 6)]) rfl sc__law_name.nd (pi_str (pv 2)) (blkOk_by (N := ["_law_pot_here", "_law_taken", "_law_letters", "_law_size", "_law_word", "_law_k", "_law_letter"]) (sc := defScope s__law_name) (by decide +kernel)) (fun _ _ _ _ _ => pg_name (i := 6) sc__law_name.nd rfl (Or.inl rfl)) (fun _ _ _ _ _ => pts_one (pt_cmpR (op_ninK K) (pv 6) (pv 1) rfl)) (fun _ _ _ _ _ => (pv 6))) pe_int (fun _ _ => rfl))))
    pss_nil)
  (pss_cons (ps_expr (kBM K (pe_bm PySem.F.plainAttrs_list PySem.F.slot_list_append PySem.F.type_list_append mt_append (pv 1) (pa_cons (pv 4) pa_nil))))
  (pss_one (ps_ret (pv 4))))))))), ?_⟩)
  · obtain ⟨p, l, ws, rfl, _⟩ := h
    rfl
  · obtain ⟨p, l, ws, rfl, hp, hl, nt, hw, q⟩ := h
    walk_at "ss"
    refine ⟨p, 8, rfl, hp, nt, by decide, by decide, fun d0 h0 h1 => ?_⟩
    walk_at "ss"
    refine ⟨by show 5 ≤ sizeLine; decide, fun l1 n1 => ?_⟩
    walk_at "ss"
    have hp1 := old_upd (o := .lst [.int 1, .int 1, .int 2, .int 8, .int (1 + d0)]) n1 hp
    have hl1 := old_upd (o := .lst [.int 1, .int 1, .int 2, .int 8, .int (1 + d0)]) n1 hl
    have nt1 : NoT (upd H l1 (.lst [.int 1, .int 1, .int 2, .int 8, .int (1 + d0)])) := nt.upd trivial
    have k1 : Kp [l] H (upd H l1 (.lst [.int 1, .int 1, .int 2, .int 8, .int (1 + d0)])) := (Kp.refl H).new n1
    refine ⟨p, 5, rfl, hp1, nt1, by decide, by decide, fun d1 h2 h3 => ?_⟩
    walk_at "ss"
    obtain ⟨sv, hsv, esv⟩ := at_some (xs := [.int 1, .int 1, .int 2, .int 8, .int (1 + d0)]) h2 h3
    refine st_ixL (sqL_of upd_same) esv ?_
    obtain ⟨n, rfl, hn1, hn2⟩ : ∃ n : Nat, sv = .int (n : Int) ∧ 1 ≤ n ∧ n ≤ 8 := by
      simp only [List.mem_cons, List.not_mem_nil, or_false] at hsv
      rcases hsv with rfl | rfl | rfl | rfl | rfl
      · exact ⟨1, rfl, by decide, by decide⟩
      · exact ⟨1, rfl, by decide, by decide⟩
      · exact ⟨2, rfl, by decide, by decide⟩
      · exact ⟨8, rfl, by decide, by decide⟩
      · exact ⟨(1 + d0).toNat, by rw [Int.toNat_of_nonneg (by omega)], by omega, by omega⟩
    generalize hH1 : upd H l1 (.lst [.int 1, .int 1, .int 2, .int 8, .int (1 + d0)]) = H1 at hp1 hl1 nt1 k1 ⊢
    walk_at "ss"
    -- the signs
    walk_at "ss"
    refine ⟨_, rfl, by omega, by omega, ?_⟩
    rw [Int.toNat_natCast]
    refine lc_walk wk_range (fun D i acc H' => ∃ cs : List Nat, acc = cs.map signV ∧ cs.length = i ∧ (∀ c ∈ cs, 97 ≤ c ∧ c ≤ 122) ∧ H' = upd H1 D (.lst acc)) (fun D nD => ⟨[], rfl, rfl, by simp, rfl⟩) (fun _ _ _ _ _ => trivial) ?_ ?_
    · rintro D i x acc H' nD hx ⟨cs, rfl, hi, hc, rfl⟩
      have hi8 : i < 8 := by
        have := (List.getElem?_eq_some_iff.mp hx).1
        rw [List.length_map, List.length_range] at this
        omega
      walk_at "ss"
      refine ⟨rfl, ?_⟩
      walk_at "ss"
      refine iteT ?_
      walk_at "ss"
      refine ⟨p, 26, rfl, old_upd nD hp1, nt1.upd trivial, by decide, by decide, fun d2 h4 h5 => ?_⟩
      obtain ⟨j, hj, rfl, ej⟩ := at_some' (xs := tl "abcdefghijklmnopqrstuvwxyz") h4 (by exact h5)
      refine st_ixS (by decide +kernel) ej ?_
      refine ⟨cs.map signV, upd_same, by rw [List.length_map]; exact small1000 (by omega), (cs ++ [(tl "abcdefghijklmnopqrstuvwxyz")[j]]).map signV, cs ++ [(tl "abcdefghijklmnopqrstuvwxyz")[j]], rfl, by simp [hi], ?_, ?_⟩
      · intro c hcc
        rcases List.mem_append.mp hcc with z | z
        · exact hc c z
        · rw [List.mem_singleton] at z
          subst z
          have all : ∀ c ∈ tl "abcdefghijklmnopqrstuvwxyz", 97 ≤ c ∧ c ≤ 122 := by decide +kernel
          exact all _ (List.getElem_mem hj)
      · rw [upd_upd, List.map_append]
        rfl
    · rintro D acc H' nD ⟨cs, rfl, hi, hc, rfl⟩
      rw [List.length_map, List.length_range] at hi
      have e1 : cs.map signV = (cs.map fun c => (⟨#[c]⟩ : Str)).map V.str := by rw [List.map_map]; rfl
      rw [e1]
      refine st_join (sqL_of upd_same) ?_ ?_
      · exact signs_fit (by omega)
      · walk_at "ss"
        rw [join_signs]
        have nm : Nm ⟨cs.toArray⟩ := ⟨by show 1 ≤ cs.toArray.toList.length; simp; omega, by show cs.toArray.toList.length ≤ 8; simp; omega, fun c hcc => hc c (by simpa [tl] using hcc)⟩
        have k2 : Kp [] H (upd H1 D (.lst ((cs.map fun c => (⟨#[c]⟩ : Str)).map V.str))) := by
          subst hH1
          exact ((Kp.refl H).new n1).new nD
        have nt2 : NoT (upd H1 D (.lst ((cs.map fun c => (⟨#[c]⟩ : Str)).map V.str))) := nt1.upd trivial
        generalize hH2 : upd H1 D (.lst ((cs.map fun c => (⟨#[c]⟩ : Str)).map V.str)) = H2 at k2 nt2 ⊢
        -- one of the words, or not
        refine ⟨fun σ' H' => ∃ z, Nm z ∧ σ' = [some (.ref p), some (.ref l), some (.str "abcdefghijklmnopqrstuvwxyz"), some (.int n), some (.str z), none, none] ∧ Kp [] H H' ∧ NoT H', ?_, ?_⟩
        · walk_at "ss"
          refine ⟨p, 12, rfl, k2.same _ _ hp, nt2, by decide, by decide, fun d3 h6 h7 => ?_⟩
          walk_at "ss"
          refine ite2 (fun c => ?_) (fun c => ?_)
          · walk_at "ss"
            refine ⟨by show 8 ≤ sizeLine; decide, fun l3 n3 => ?_⟩
            walk_at "ss"
            refine ⟨p, 8, rfl, old_upd n3 (k2.same _ _ hp), nt2.upd trivial, by decide, by decide, fun d4 h8 h9 => ?_⟩
            obtain ⟨sv2, hsv2, esv2⟩ := at_some (xs := [.str "take", .str "set", .str "quit", .str "come", .str "lock", .str "task", .str "done", .str "got"]) h8 h9
            refine st_ixL (sqL_of upd_same) esv2 ?_
            obtain ⟨z, rfl, hz⟩ : ∃ z, sv2 = .str z ∧ Nm z := by
              simp only [List.mem_cons, List.not_mem_nil, or_false] at hsv2
              rcases hsv2 with rfl | rfl | rfl | rfl | rfl | rfl | rfl | rfl <;> exact ⟨_, rfl, nm_of (by decide +kernel)⟩
            walk_at "ss"
            exact ⟨z, hz, rfl, k2.new n3, nt2.upd trivial⟩
          · walk_at "ss"
            exact ⟨_, nm, rfl, k2, nt2⟩
        · rintro σ' H3 ⟨z, hz, rfl, k3, nt3⟩
          -- a free letter, where it is taken
          refine ⟨fun σ' H' => ∃ z, Nm z ∧ z ∉ ws ∧ σ' = [some (.ref p), some (.ref l), some (.str "abcdefghijklmnopqrstuvwxyz"), some (.int n), some (.str z), none, none] ∧ Kp [] H H' ∧ NoT H', ?_, ?_⟩
          · walk_at "ss"
            refine st_in (sqL_of (k3.same _ _ hl)) rfl (TB.flat_strs ws) ?_
            walk_at "ss"
            rw [inV_strs]
            refine ite2 (fun c => ?_) (fun c => ?_)
            · walk_at "ss"
              refine ⟨_, rfl, ?_⟩
              refine lc_walk wk_str (fun D i acc H' => acc = ((abc.take i).filter (fun c => !decide ((⟨#[c]⟩ : Str) ∈ ws))).map signV ∧ H' = upd H3 D (.lst acc)) (fun D nD => ⟨rfl, rfl⟩) (fun _ _ _ _ _ => trivial) ?_ ?_
              · rintro D i x acc H' nD hx ⟨rfl, rfl⟩
                obtain ⟨c2, hc2, rfl⟩ : ∃ c2, abc[i]? = some c2 ∧ x = signV c2 := by
                  rw [List.getElem?_map] at hx
                  cases e3 : (tl "abcdefghijklmnopqrstuvwxyz")[i]? with
                  | none =>
                    rw [e3] at hx
                    exact nomatch hx
                  | some c2 =>
                    rw [e3] at hx
                    exact ⟨c2, e3, (Option.some.inj hx).symm⟩
                have et : (abc.take (i + 1)).filter (fun c => !decide ((⟨#[c]⟩ : Str) ∈ ws)) = (abc.take i).filter (fun c => !decide ((⟨#[c]⟩ : Str) ∈ ws)) ++ [c2].filter (fun c => !decide ((⟨#[c]⟩ : Str) ∈ ws)) := by
                  rw [List.take_add_one, hc2, List.filter_append]
                  rfl
                have hlen : (((abc.take i).filter (fun c => !decide ((⟨#[c]⟩ : Str) ∈ ws))).map signV).length < sizeLine := by
                  rw [List.length_map]
                  have l1 := List.length_filter_le (fun c => !decide ((⟨#[c]⟩ : Str) ∈ ws)) (abc.take i)
                  have l2 : (abc.take i).length ≤ abc.length := by rw [List.length_take]; omega
                  have l3 : abc.length = 26 := by decide +kernel
                  exact small1000 (by omega)
                walk_at "ss"
                refine ⟨rfl, ?_⟩
                walk_at "ss"
                refine st_nin (sqL_of (old_upd nD (k3.same _ _ hl))) rfl (TB.flat_strs ws) ?_
                walk_at "ss"
                rw [show signV c2 = V.str ⟨#[c2]⟩ from rfl, inV_strs]
                refine ite2 (fun c3 => ?_) (fun c3 => ?_)
                · walk_at "ss"
                  refine ⟨_, upd_same, hlen, _, rfl, ?_⟩
                  rw [upd_upd, et, show [c2].filter (fun c => !decide ((⟨#[c]⟩ : Str) ∈ ws)) = [c2] from List.filter_cons_of_pos (p := fun c => !decide ((⟨#[c]⟩ : Str) ∈ ws)) c3, List.map_append]
                  rfl
                · refine ⟨_, rfl, ?_⟩
                  rw [et, show [c2].filter (fun c => !decide ((⟨#[c]⟩ : Str) ∈ ws)) = [] from List.filter_cons_of_neg (p := fun c => !decide ((⟨#[c]⟩ : Str) ∈ ws)) c3, List.append_nil]
              · rintro D acc H' nD ⟨rfl, rfl⟩
                obtain ⟨c4, r4, e4, hc4, hn4⟩ := free_letter hw
                have el : abc.take ((tl "abcdefghijklmnopqrstuvwxyz").map signV).length = abc := List.take_of_length_le (by rw [List.length_map]; exact Nat.le_refl _)
                rw [el, e4]
                walk_at "ss"
                refine st_ixL (sqL_of upd_same) (atI_nat (j := 0) rfl) ?_
                walk_at "ss"
                exact ⟨⟨#[c4]⟩, abc_nm hc4, hn4, rfl, k3.new nD, nt3.upd trivial⟩
            · walk_at "ss"
              exact ⟨z, hz, by simpa using c, rfl, k3, nt3⟩
          · rintro σ' H4 ⟨z, hz, hz2, rfl, k4, nt4⟩
            have hl4 := k4.same _ _ hl
            walk_at "ss"
            refine ⟨Or.inl ⟨rfl, _, sqL_of hl4⟩, ?_⟩
            walk_at "ss"
            refine st_append hl4 (by rw [List.length_map]; exact small1000 (by omega)) ?_
            walk_at "ss"
            refine q z _ hz hz2 (fun b o e m => ?_) ?_
            · exact oth_upd (fun z2 => m (by rw [z2]; simp)) (k4.same _ _ e)
            · rw [upd_same, List.map_append]
              rfl
theorem ok_name (F : FnP K "_law_name" s__law_name f fd) (T : BltA mg) (c__law_draw : Cal P w K mg base 1 "_law_draw" spDraw []) : FnOk P w K mg base CX0 2 f fd ["_law_pot_here", "_law_taken"] spName := by
  refine fn_fg (ok_name0 F T c__law_draw) fun vs H Q E h => ?_
  obtain ⟨p, l, ws, rfl, hp, hl, nt, hw, q⟩ := h
  exact ⟨p, l, ws, rfl, hp, hl, nt, hw, fun z H' h1 h2 k e => ⟨_, Fg.mut1 k nt hl e trivial (fun _ => trivial) (fun y => by intro z; cases z), q z h1 h2⟩⟩
end
end K42
namespace K42
open PySem PySem.Spec PyProof.Rows L2 TB
open C8 (Cal pe_c Mak pe_mk Met pe_mt pe_mt0 pss_cut tCut pe_gc)
abbrev s__law_latches : Stmt := top 15
theorem sc__law_latches : FnScope ["_law_pot_here", "_law_taken", "_law_k"] ["_law_pot_here"] (defScope s__law_latches) := ⟨rfl, rfl, rfl, by decide +kernel, rfl, by decide +kernel, by decide +kernel⟩
section
variable {P : Program} {w : World} {K : PySem.W.Frag} {mg : Str → Option Value} {base : Heap} {f : Addr} {fd : FuncData}
def spLatches : Sp := fun vs H Q _ => ∃ p : Addr, vs = [.ref p] ∧ H p = some (PotO p) ∧ NoT H ∧ ∀ (l : Addr) (ws : List Str), H l = none → ws.Nodup → (∀ z ∈ ws, Nm z) → 1 ≤ ws.length → ws.length ≤ 7 → Q (.ref l) (upd H l (.lst (ws.map V.str)))
theorem ok__law_latches (F : FnP K "_law_latches" s__law_latches f fd) (T : BltA mg) (c__law_draw : Cal P w K mg base 1 "_law_draw" spDraw []) (c__law_name : Cal P w K mg base 2 "_law_name" spName []) : FnOk P w K mg base CX0 3 f fd ["_law_pot_here"] spLatches := by
  refine fn_fg (sp := fun vs H Q _ => ∃ p : Addr, vs = [.ref p] ∧ H p = some (PotO p) ∧ NoT H ∧ ∀ (l : Addr) (ws : List Str) (H' : Hp), H l = none → ws.Nodup → (∀ z ∈ ws, Nm z) → 1 ≤ ws.length → ws.length ≤ 7 → Kp [] H H' → H' l = some (.lst (ws.map V.str)) → Q (.ref l) H') ?_ ?_
  · refine F.ok sc__law_latches (fun vs H Q E h => ?_) (fun cdv A outer s H vs Q E hr h => ⟨_, PSs.nox 
(pss_cons (ps_set (i := 1) sc__law_latches.nd rfl (.inl rfl) (pe_lst pa_nil))
  (pss_cons (ps_for PassesOwn.never rfl (pi_range1 (by rfl) T.b_range (pa_cons (pe_ix (ix_listK K) (pe_lst (pa_cons pe_int (pa_cons pe_int (pa_cons pe_int (pa_cons (pe_op op_add pe_int (pe_c c__law_draw hr (by decide) (by rfl) (pa_cons (pv 0) (pa_cons pe_int pa_nil)))) pa_nil))))) (pe_c c__law_draw hr (by decide) (by rfl) (pa_cons (pv 0) (pa_cons pe_int pa_nil))) (fun _ _ => rfl)) pa_nil)) (pg_name (i := 2) sc__law_latches.nd rfl (.inl rfl))
    (pss_one (ps_expr (pe_c c__law_name hr (by decide) (by rfl) (pa_cons (pv 0) (pa_cons (pv 1) pa_nil))))))
  (pss_one (ps_ret (pv 1))))), ?_⟩)
    · obtain ⟨p, rfl, _⟩ := h
      rfl
    · obtain ⟨p, rfl, hp, nt, q⟩ := h
      walk_at "ss"
      refine ⟨by show 0 ≤ sizeLine; decide, fun l nl => ?_⟩
      walk_at "ss"
      refine ⟨p, 7, rfl, old_upd nl hp, nt.lst, by decide, by decide, fun d0 h0 h1 => ?_⟩
      walk_at "ss"
      refine ⟨by show 4 ≤ sizeLine; decide, fun l1 n1 => ?_⟩
      walk_at "ss"
      refine ⟨p, 4, rfl, old_upd n1 (old_upd nl hp), nt.lst.lst, by decide, by decide, fun d1 h2 h3 => ?_⟩
      obtain ⟨sv, hsv, esv⟩ := at_some (xs := [.int 7, .int 1, .int 3, .int (1 + d0)]) h2 h3
      refine st_ixL (sqL_of upd_same) esv ?_
      obtain ⟨n, rfl, hn1, hn2⟩ : ∃ n : Nat, sv = .int (n : Int) ∧ 1 ≤ n ∧ n ≤ 7 := by
        simp only [List.mem_cons, List.not_mem_nil, or_false] at hsv
        rcases hsv with rfl | rfl | rfl | rfl
        · exact ⟨7, rfl, by decide, by decide⟩
        · exact ⟨1, rfl, by decide, by decide⟩
        · exact ⟨3, rfl, by decide, by decide⟩
        · exact ⟨(1 + d0).toNat, by rw [Int.toNat_of_nonneg (by omega)], by omega, by omega⟩
      have hl1 : upd (upd H l (.lst [])) l1 (.lst [.int 7, .int 1, .int 3, .int (1 + d0)]) l = some (.lst []) := old_upd n1 upd_same
      have k1 : Kp [] H (upd (upd H l (.lst [])) l1 (.lst [.int 7, .int 1, .int 3, .int (1 + d0)])) := ((Kp.refl H).new nl).new n1
      have nt1 : NoT (upd (upd H l (.lst [])) l1 (.lst [.int 7, .int 1, .int 3, .int (1 + d0)])) := nt.lst.lst
      generalize upd (upd H l (.lst [])) l1 (.lst [.int 7, .int 1, .int 3, .int (1 + d0)]) = H1 at hl1 k1 nt1 ⊢
      walk_at "ss"
      refine ⟨_, rfl, by omega, by omega, ?_⟩
      rw [Int.toNat_natCast]
      refine for_walk wk_range (fun i σ H2 => ∃ (y : Option V) (ws : List Str), σ = [some (.ref p), some (.ref l), y] ∧ ws.length = i ∧ ws.Nodup ∧ (∀ z ∈ ws, Nm z) ∧ H2 l = some (.lst (ws.map V.str)) ∧ Kp [] H H2 ∧ NoT H2) ⟨none, [], rfl, rfl, List.nodup_nil, by simp, hl1, k1, nt1⟩ (fun _ _ _ _ => trivial) ?_ ?_
      · rintro i x σ H2 hx ⟨y, ws, rfl, hi, nd, nm, hl2, k2, nt2⟩
        have hi7 : i < 7 := by
          have := (List.getElem?_eq_some_iff.mp hx).1
          rw [List.length_map, List.length_range] at this
          omega
        walk_at "ss"
        refine ⟨p, l, ws, rfl, k2.same _ _ hp, hl2, nt2, by omega, fun z hz hz2 => ?_⟩
        refine ⟨_, ws ++ [z], rfl, by simp [hi], ?_, ?_, upd_same, k2.own nl, nt2.lst⟩
        · exact List.nodup_append.mpr ⟨nd, by simp, fun u hu v hv e => hz2 (by rw [List.mem_singleton] at hv; rw [← hv, ← e]; exact hu)⟩
        · intro u hu
          rcases List.mem_append.mp hu with c | c
          · exact nm u c
          · rw [List.mem_singleton] at c
            rw [c]
            exact hz
      · rintro σ H2 ⟨y, ws, rfl, hi, nd, nm, hl2, k2, nt2⟩
        rw [List.length_map, List.length_range] at hi
        walk_at "ss"
        exact q l ws H2 nl nd nm (by omega) (by omega) k2 hl2
  · rintro vs H Q E ⟨p, rfl, hp, nt, q⟩
    exact ⟨p, rfl, hp, nt, fun l ws H' nl nd nm h1 h2 k e => ⟨_, Fg.one k.same nt nl e trivial (fun _ => trivial), q l ws nl nd nm h1 h2⟩⟩
end
end K42
namespace K42
open PySem PySem.Spec PyProof.Rows L2 TB
open C8 (Cal pe_c Mak pe_mk Met pe_mt pe_mt0 pss_cut tCut pe_gc)
abbrev s__law_some : Stmt := top 18
theorem sc__law_some : FnScope ["_law_pot_here", "_law_latches_here", "_law_left", "_law_found", "_law_k"] ["_law_pot_here", "_law_latches_here"] (defScope s__law_some) := ⟨rfl, rfl, rfl, by decide +kernel, rfl, by decide +kernel, by decide +kernel⟩
section
variable {P : Program} {w : World} {K : PySem.W.Frag} {mg : Str → Option Value} {base : Heap} {f : Addr} {fd : FuncData}
/-- some of the locks, in a drawn order -/
def spSome (K : PySem.W.Frag) : Sp := fun vs H Q _ => ∃ (p a : Addr) (ws : List Str), vs = [.ref p, .ref a] ∧ H p = some (PotO p) ∧ SqL K H a (ws.map V.str) ∧ NoT H ∧ ws.length ≤ 1000 ∧
  ∀ (l : Addr) (zs rest : List Str), H l = none → (zs ++ rest).Perm ws → Q (.ref l) (upd H l (.lst (zs.map V.str)))
theorem ok__law_some (F : FnP K "_law_some" s__law_some f fd) (T : BltA mg) (c__law_draw : Cal P w K mg base 1 "_law_draw" spDraw []) : FnOk P w K mg base CX0 2 f fd ["_law_pot_here", "_law_latches_here"] (spSome K) := by
  refine fn_fg (sp := fun vs H Q _ => ∃ (p a : Addr) (ws : List Str), vs = [.ref p, .ref a] ∧ H p = some (PotO p) ∧ SqL K H a (ws.map V.str) ∧ NoT H ∧ ws.length ≤ 1000 ∧
    ∀ (l : Addr) (zs rest : List Str) (H' : Hp), H l = none → (zs ++ rest).Perm ws → Kp [] H H' → H' l = some (.lst (zs.map V.str)) → Q (.ref l) H') ?_ ?_
  · refine F.ok sc__law_some (fun vs H Q E h => ?_) (fun cdv A outer s H vs Q E hr h => ⟨_, PSs.nox 
(pss_cons (ps_par (i := 2) (j := 3) rfl sc__law_some.nd rfl rfl (by decide) rfl rfl (pa_cons (pe_callTy (call_listK K) (by rfl) T.b_list (by decide +kernel) (pa_cons (pv 1) pa_nil)) (pa_cons (pe_lst pa_nil) pa_nil)) rfl)
  (pss_cons (ps_for PassesOwn.never rfl (pi_range1 (by rfl) T.b_range (pa_cons (pe_c c__law_draw hr (by decide) (by rfl) (pa_cons (pv 0) (pa_cons (pe_op op_add (pe_callB (call_lenK K) (by rfl) T.b_len PySem.boot_len (pa_cons (pv 1) pa_nil)) pe_int) pa_nil))) pa_nil)) (pg_name (i := 4) sc__law_some.nd rfl (.inl rfl))
    (pss_one (ps_expr (kBM K (pe_bm PySem.F.plainAttrs_list PySem.F.slot_list_append PySem.F.type_list_append mt_append (pv 3) (pa_cons (kBM K (pe_bm PySem.F.plainAttrs_list PySem.F.slot_list_pop PySem.F.type_list_pop mt_popAt (pv 2) (pa_cons (pe_c c__law_draw hr (by decide) (by rfl) (pa_cons (pv 0) (pa_cons (pe_callB (call_lenK K) (by rfl) T.b_len PySem.boot_len (pa_cons (pv 2) pa_nil)) pa_nil))) pa_nil))) pa_nil))))))
  (pss_one (ps_ret (pv 3))))), ?_⟩)
    · obtain ⟨p, a, ws, rfl, _⟩ := h
      rfl
    · obtain ⟨p, a, ws, rfl, hp, ha, nt, hl, q⟩ := h
      walk_at "ss"
      refine st_list ha fun lf nlf => ?_
      walk_at "ss"
      refine ⟨by show 0 ≤ sizeLine; decide, fun fo nfo => ?_⟩
      walk_at "ss"
      refine st_len (sqL_new nfo (sqL_new nlf ha)) ?_
      walk_at "ss"
      refine ⟨p, _, rfl, old_upd nfo (old_upd nlf hp), nt.lst.lst, by omega, by rw [List.length_map]; omega, fun d h0 h1 => ?_⟩
      rw [List.length_map] at h1
      walk_at "ss"
      refine ⟨_, rfl, by omega, by omega, ?_⟩
      have nfl : lf ≠ fo := by
        intro e
        rw [← e, upd_same] at nfo
        exact nomatch nfo
      have nfo2 : H fo = none := (nil_upd nfo).2
      have k1 : Kp [] H (upd (upd H lf (.lst (ws.map V.str))) fo (.lst [])) := ((Kp.refl H).new nlf).new nfo
      refine for_walk wk_range (fun i σ H2 => ∃ (y : Option V) (zs rest : List Str), σ = [some (.ref p), some (.ref a), some (.ref lf), some (.ref fo), y] ∧ zs.length = i ∧ (zs ++ rest).Perm ws ∧ H2 lf = some (.lst (rest.map V.str)) ∧ H2 fo = some (.lst (zs.map V.str)) ∧ Kp [] H H2 ∧ NoT H2)
        ⟨none, [], ws, rfl, rfl, List.Perm.refl _, old_upd nfo upd_same, upd_same, k1, nt.lst.lst⟩ (fun _ _ _ _ => trivial) ?_ ?_
      · rintro i x σ H2 hx ⟨y, zs, rest, rfl, hi, pm, h2l, h2f, k2, nt2⟩
        have hin : i < ws.length := by
          have := (List.getElem?_eq_some_iff.mp hx).1
          rw [List.length_map, List.length_range] at this
          omega
        have hlen := pm.length_eq
        rw [List.length_append] at hlen
        walk_at "ss"
        refine ⟨Or.inl ⟨rfl, _, sqL_of h2f⟩, ?_⟩
        walk_at "ss"
        refine ⟨Or.inl ⟨rfl, _, sqL_of h2l⟩, ?_⟩
        walk_at "ss"
        refine st_len (sqL_of h2l) ?_
        walk_at "ss"
        refine ⟨p, _, rfl, k2.same _ _ hp, nt2, by rw [List.length_map]; omega, by rw [List.length_map]; omega, fun d2 h3 h4 => ?_⟩
        rw [List.length_map] at h4
        obtain ⟨j, rfl⟩ : ∃ j : Nat, d2 = (j : Int) := ⟨d2.toNat, by omega⟩
        have hj : j < rest.length := by omega
        walk_at "ss"
        refine ⟨lf, rest.map V.str, j, j, .str rest[j], rfl, rfl, h2l, by omega, by omega, ?_, ?_, ?_⟩
        · rw [List.length_map]
          exact (ixN_seq (Evl.ixN_nat hj)).1
        · rw [List.getElem?_map, List.getElem?_eq_getElem hj]
          rfl
        walk_at "ss"
        refine st_append (oth_upd nfl.symm h2f) (by rw [List.length_map]; exact small1000 (by omega)) ?_
        walk_at "ss"
        refine ⟨_, zs ++ [rest[j]], rest.eraseIdx j, rfl, by simp [hi], ?_, ?_, ?_, ?_, nt2.lst.lst⟩
        · refine List.Perm.trans ?_ pm
          rw [List.append_assoc]
          refine List.Perm.append_left _ ?_
          exact erase_perm hj
        · rw [upd_ne nfl, upd_same, erase_map]
        · rw [upd_same, List.map_append]
          rfl
        · exact (k2.own nlf).own nfo2
      · rintro σ H2 ⟨y, zs, rest, rfl, hi, pm, h2l, h2f, k2, nt2⟩
        walk_at "ss"
        exact q fo zs rest H2 nfo2 pm k2 h2f
  · rintro vs H Q E ⟨p, a, ws, rfl, hp, ha, nt, hl, q⟩
    exact ⟨p, a, ws, rfl, hp, ha, nt, hl, fun l zs rest H' nl pm k e => ⟨_, Fg.one k.same nt nl e trivial (fun _ => trivial), q l zs rest nl pm⟩⟩
end
end K42
namespace K42
open PySem PySem.Spec PyProof.Rows L2 TB LamX NdefX
open C8 (Cal pe_c Mak pe_mk Met pe_mt pe_mt0 pss_cut tCut pe_gc)
abbrev s__law_number : Stmt := top 14
theorem sc__law_number : FnScope ["_law_pot_here", "_law_far"] ["_law_pot_here"] (defScope s__law_number) := ⟨rfl, rfl, rfl, by decide +kernel, rfl, by decide +kernel, by decide +kernel⟩
abbrev s__law_order_of : Stmt := top 16
theorem sc__law_order_of : FnScope ["_law_pot_here", "_law_latches_here", "_law_line", "_law_left", "_law_k", "_law_made", "_law_pairs", "_law_low", "_law_high"] ["_law_pot_here", "_law_latches_here"] (defScope s__law_order_of) := ⟨rfl, rfl, rfl, by decide +kernel, rfl, by decide +kernel, by decide +kernel⟩
section
variable {P : Program} {w : World} {K : PySem.W.Frag} {mg : Str → Option Value} {base : Heap} {f C : Addr} {fd : FuncData}
def spNumber : Sp := fun vs H Q _ => ∃ p : Addr, vs = [.ref p] ∧ H p = some (PotO p) ∧ NoT H ∧ ∀ d : Int, -(10 ^ 18) ≤ d → d ≤ 10 ^ 18 → Q (.int d) H
theorem ok__law_number (F : FnP K "_law_number" s__law_number f fd) (T : BltA mg) (c__law_draw : Cal P w K mg base 1 "_law_draw" spDraw []) : FnOk P w K mg base CX0 2 f fd ["_law_pot_here"] spNumber := by
  refine fn_fg (sp := fun vs H Q _ => ∃ p : Addr, vs = [.ref p] ∧ H p = some (PotO p) ∧ NoT H ∧ ∀ (d : Int) (H' : Hp), -(10 ^ 18) ≤ d → d ≤ 10 ^ 18 → Same H H' → Q (.int d) H') ?_ ?_
  · refine F.ok sc__law_number (fun vs H Q E h => ?_) (fun cdv A outer s H vs Q E hr h => ⟨_, PSs.nox
(pss_cons (ps_set (i := 1) sc__law_number.nd rfl (.inl rfl) (pe_op op_sub (pe_c c__law_draw hr (by decide) (by rfl) (pa_cons (pv 0) (pa_cons (pe_op op_add (pe_op op_mul pe_int (pe_op op_pow pe_int pe_int)) pe_int) pa_nil))) (pe_op op_pow pe_int pe_int)))
  (pss_one (ps_ret (pe_ix (ix_listK K) (pe_lst (pa_cons (pe_c c__law_draw hr (by decide) (by rfl) (pa_cons (pv 0) (pa_cons pe_int pa_nil))) (pa_cons (pe_op op_sub (pe_c c__law_draw hr (by decide) (by rfl) (pa_cons (pv 0) (pa_cons pe_int pa_nil))) pe_int) (pa_cons (pe_op op_sub (pe_c c__law_draw hr (by decide) (by rfl) (pa_cons (pv 0) (pa_cons pe_int pa_nil))) pe_int) (pa_cons (pv 1) pa_nil))))) (pe_c c__law_draw hr (by decide) (by rfl) (pa_cons (pv 0) (pa_cons pe_int pa_nil))) (fun _ _ => rfl)))))
, ?_⟩)
    · obtain ⟨p, rfl, _⟩ := h
      rfl
    · obtain ⟨p, rfl, hp, nt, q⟩ := h
      walk_at "ss"
      refine st_I ⟨by decide, by decide, by decide⟩ ?_
      refine st_I (Or.inl ⟨by decide, by decide⟩) ?_
      walk_at "ss"
      refine ⟨p, _, rfl, hp, nt, by decide, by decide, fun d0 a1 a2 => ?_⟩
      walk_at "ss"
      refine st_I ⟨by decide, by decide, by decide⟩ ?_
      walk_at "ss"
      refine ⟨p, 3, rfl, hp, nt, by decide, by decide, fun d1 b1 b2 => ?_⟩
      walk_at "ss"
      refine ⟨p, 3, rfl, hp, nt, by decide, by decide, fun d2 c1 c2 => ?_⟩
      walk_at "ss"
      refine ⟨p, 2001, rfl, hp, nt, by decide, by decide, fun d3 e1 e2 => ?_⟩
      walk_at "ss"
      refine ⟨by show 4 ≤ sizeLine; decide, fun l nl => ?_⟩
      walk_at "ss"
      refine ⟨p, 4, rfl, old_upd nl hp, nt.lst, by decide, by decide, fun d4 f1 f2 => ?_⟩
      obtain ⟨sv, hsv, esv⟩ := at_some (xs := [.int d1, .int (d2 - 1), .int (d3 - 1000), .int (d0 - 10 ^ (18 : Int).toNat)]) f1 f2
      refine st_ixL (sqL_of upd_same) esv ?_
      have sm : Same H (upd H l (.lst [.int d1, .int (d2 - 1), .int (d3 - 1000), .int (d0 - 10 ^ (18 : Int).toNat)])) := fun _ _ e => old_upd nl e
      have e18 : ((10 : Int) ^ (18 : Int).toNat) = 1000000000000000000 := by decide
      have e18' : ((10 : Int) ^ 18) = 1000000000000000000 := by decide
      rw [e18] at a2
      simp only [List.mem_cons, List.not_mem_nil, or_false] at hsv
      rcases hsv with rfl | rfl | rfl | rfl
      · exact q _ _ (by omega) (by omega) sm
      · exact q _ _ (by omega) (by omega) sm
      · exact q _ _ (by omega) (by omega) sm
      · exact q _ _ (by rw [e18]; omega) (by rw [e18]; omega) sm
  · rintro vs H Q E ⟨p, rfl, hp, nt, q⟩
    exact ⟨p, rfl, hp, nt, fun d H' h1 h2 sm => ⟨H, Fg.back sm nt, q d h1 h2⟩⟩
def spOrderOf (K : PySem.W.Frag) (C T0 : Addr) (q : Str) : Sp := fun vs H Q _ => ∃ (p a : Addr) (ws : List Str), vs = [.ref p, .ref a] ∧ H p = some (PotO p) ∧ SqL K H a (ws.map V.str) ∧ a ≠ T0 ∧ ws.Nodup ∧ (∀ z ∈ ws, Nm z) ∧ 1 ≤ ws.length ∧ ws.length ≤ 30 ∧ NoT H ∧ TabS H T0 q ∧
  ∀ (H' : Hp) (t y pl ln : Addr) (rs : List V) (prs ps : List Pr) (line : List Str), Tg T0 q H H' → H' t = some (.tup [.ref y, .ref pl, .ref ln]) → OrdAt C H' y ws ps → OrdOk ws ps → H' pl = some (.lst rs) → Prs H' rs prs → H' ln = some (.lst (line.map V.str)) → line.Perm ws →
    (∀ z, z ∈ prs ↔ z ∈ ps) → (∀ z ∈ prs, ixS line z.1 < ixS line z.2) → prs.length ≤ 100 → H pl = none → H ln = none → pl ≠ ln → Q (.ref t) H'
theorem ok__law_order_of {T0 d : Addr} (F : FnP K "_law_order_of" s__law_order_of f fd) (T : BltA mg) (oc : OrdC K C) (hd : ∀ H, SqT K H d []) (c__law_draw : Cal P w K mg base 1 "_law_draw" spDraw []) (m_Order : Mak P w K mg base 1 "Order" C (spInit K C) [.ref d]) (m_Order_added : Met P w K mg base 5 C "added" (spAdded C T0 lamQ) []) :
    FnOk P w K mg base CX0 6 f fd ["_law_pot_here", "_law_latches_here"] (spOrderOf K C T0 lamQ) := by
  refine F.ok sc__law_order_of (fun vs H Q E h => ?_) (fun cdv A outer s H vs Q E hr h => ⟨_, PSs.nox
(pss_cons (ps_par (i := 2) (j := 3) rfl sc__law_order_of.nd rfl rfl (by decide) rfl rfl (pa_cons (pe_lst pa_nil) (pa_cons (pe_callTy (call_listK K) (by rfl) T.b_list (by decide +kernel) (pa_cons (pv 1) pa_nil)) pa_nil)) rfl)
  (pss_cons (ps_for PassesOwn.never rfl (pi_range1 (by rfl) T.b_range (pa_cons (pe_callB (call_lenK K) (by rfl) T.b_len PySem.boot_len (pa_cons (pv 1) pa_nil)) pa_nil)) (pg_name (i := 4) sc__law_order_of.nd rfl (.inl rfl))
    (pss_one (ps_expr (kBM K (pe_bm PySem.F.plainAttrs_list PySem.F.slot_list_append PySem.F.type_list_append mt_append (pv 2) (pa_cons (kBM K (pe_bm PySem.F.plainAttrs_list PySem.F.slot_list_pop PySem.F.type_list_pop mt_popAt (pv 3) (pa_cons (pe_c c__law_draw hr (by decide) (by rfl) (pa_cons (pv 0) (pa_cons (pe_callB (call_lenK K) (by rfl) T.b_len PySem.boot_len (pa_cons (pv 3) pa_nil)) pa_nil))) pa_nil))) pa_nil))))))
  (pss_cons (ps_par (i := 5) (j := 6) rfl sc__law_order_of.nd rfl rfl (by decide) rfl rfl (pa_cons (pe_mk m_Order hr (by decide) (by rfl) (pa_cons (pe_callTy (call_listK K) (by rfl) T.b_list (by decide +kernel) (pa_cons (pv 1) pa_nil)) pa_nil)) (pa_cons (pe_lst pa_nil) pa_nil)) rfl)
  (pss_cons (ps_for PassesOwn.never rfl (pi_range1 (by rfl) T.b_range (pa_cons (pe_c c__law_draw hr (by decide) (by rfl) (pa_cons (pv 0) (pa_cons (pe_op op_add (pe_op op_mul pe_int (pe_callB (call_lenK K) (by rfl) T.b_len PySem.boot_len (pa_cons (pv 1) pa_nil))) pe_int) pa_nil))) pa_nil)) (pg_name (i := 4) sc__law_order_of.nd rfl (.inl rfl))
    (pss_cons (ps_asg (pe_callB (cr_sortedK K) (by rfl) T.b_sorted (by decide +kernel) (pa_cons (pe_lst (pa_cons (pe_c c__law_draw hr (by decide) (by rfl) (pa_cons (pv 0) (pa_cons (pe_callB (call_lenK K) (by rfl) T.b_len PySem.boot_len (pa_cons (pv 2) pa_nil)) pa_nil))) (pa_cons (pe_c c__law_draw hr (by decide) (by rfl) (pa_cons (pv 0) (pa_cons (pe_callB (call_lenK K) (by rfl) T.b_len PySem.boot_len (pa_cons (pv 2) pa_nil)) pa_nil))) pa_nil))) pa_nil)) (kUnl K 2 (pg_unl rfl (pgs_cons (pg_name (i := 7) sc__law_order_of.nd rfl (.inl rfl)) (pgs_cons (pg_name (i := 8) sc__law_order_of.nd rfl (.inl rfl)) pgs_nil)))))
      (pss_one (ps_if (pt_cmpR op_lt (pv 7) (pv 8) (nomark _))
        (pss_cons (ps_set (i := 5) sc__law_order_of.nd rfl (.inl rfl) (pe_mt m_Order_added hr (by decide) (pv 5) (pa_cons (pe_ix (ix_listK K) (pv 2) (pv 7) (fun _ _ => rfl)) (pa_cons (pe_ix (ix_listK K) (pv 2) (pv 8) (fun _ _ => rfl)) pa_nil))))
          (pss_one (ps_expr (kBM K (pe_bm PySem.F.plainAttrs_list PySem.F.slot_list_append PySem.F.type_list_append mt_append (pv 6) (pa_cons (pe_tup (pa_cons (pe_ix (ix_listK K) (pv 2) (pv 7) (fun _ _ => rfl)) (pa_cons (pe_ix (ix_listK K) (pv 2) (pv 8) (fun _ _ => rfl)) pa_nil))) pa_nil))))))
        pss_nil))))
  (pss_one (ps_ret (pe_tup (pa_cons (pv 5) (pa_cons (pv 6) (pa_cons (pv 2) pa_nil))))))))))
, ?_⟩)
  · obtain ⟨p, a, ws, rfl, _⟩ := h
    rfl
  · obtain ⟨p, a, ws, rfl, hp, ha, haT, nd, nm, h1, h30, nt, tb, q⟩ := h
    have hpT : p ≠ T0 := by
      obtain ⟨ts, e, _⟩ := id tb
      exact ne_of hp e (fun z => nomatch z)
    walk_at "ss"
    refine ⟨Nat.zero_le _, fun ln nln => ?_⟩
    walk_at "ss"
    refine st_list (Kp.sqL (ls := []) (fun b o e _ => old_upd nln e) (by simp) ha) ?_
    intro lf nlf
    walk_at "ss"
    have nfl : lf ≠ ln := (nil_upd nlf).1
    have nlf2 : H lf = none := (nil_upd nlf).2
    refine st_len (Kp.sqL (ls := []) (fun b o e _ => old_upd nlf (old_upd nln e)) (by simp) ha) ?_
    walk_at "ss"
    rw [List.length_map]
    refine ⟨_, rfl, by omega, by omega, ?_⟩
    rw [Int.toNat_natCast]
    refine for_walk wk_range (fun i σ H2 => ∃ (y : Option V) (zs rest : List Str), σ = [some (.ref p), some (.ref a), some (.ref ln), some (.ref lf), y, none, none, none, none] ∧ zs.length = i ∧ (zs ++ rest).Perm ws ∧ H2 lf = some (.lst (rest.map V.str)) ∧ H2 ln = some (.lst (zs.map V.str)) ∧ Kp [] H H2 ∧ NoT H2)
      ⟨none, [], ws, rfl, rfl, List.Perm.refl _, upd_same, oth_upd nfl.symm upd_same, ((Kp.refl H).new nln).new nlf, nt.lst.lst⟩ (fun _ _ _ _ => trivial) ?_ ?_
    · rintro i x σ H2 hx ⟨y, zs, rest, rfl, hi, pm, h2l, h2f, k2, nt2⟩
      have hin : i < ws.length := by
        have := (List.getElem?_eq_some_iff.mp hx).1
        rw [List.length_map, List.length_range] at this
        omega
      have hlen := pm.length_eq
      rw [List.length_append] at hlen
      walk_at "ss"
      refine ⟨Or.inl ⟨rfl, _, sqL_of h2f⟩, ?_⟩
      walk_at "ss"
      refine ⟨Or.inl ⟨rfl, _, sqL_of h2l⟩, ?_⟩
      walk_at "ss"
      refine st_len (sqL_of h2l) ?_
      walk_at "ss"
      refine ⟨p, _, rfl, k2.same _ _ hp, nt2, by rw [List.length_map]; omega, by rw [List.length_map]; omega, fun d2 h3 h4 => ?_⟩
      rw [List.length_map] at h4
      obtain ⟨j, rfl⟩ : ∃ j : Nat, d2 = (j : Int) := ⟨d2.toNat, by omega⟩
      have hj : j < rest.length := by omega
      walk_at "ss"
      refine ⟨lf, rest.map V.str, j, j, .str rest[j], rfl, rfl, h2l, by omega, by omega, ?_, ?_, ?_⟩
      · rw [List.length_map]
        exact (ixN_seq (Evl.ixN_nat hj)).1
      · rw [List.getElem?_map, List.getElem?_eq_getElem hj]
        rfl
      walk_at "ss"
      refine st_append (oth_upd nfl.symm h2f) (by rw [List.length_map]; exact small1000 (by omega)) ?_
      walk_at "ss"
      refine ⟨_, zs ++ [rest[j]], rest.eraseIdx j, rfl, by simp [hi], ?_, ?_, ?_, ?_, nt2.lst.lst⟩
      · refine List.Perm.trans ?_ pm
        rw [List.append_assoc]
        refine List.Perm.append_left _ ?_
        exact erase_perm hj
      · rw [upd_ne nfl, upd_same, erase_map]
      · rw [upd_same, List.map_append]
        rfl
      · exact (k2.own nlf2).own nln
    · rintro σ H2 ⟨y0, line, rest, rfl, hi, pm0, h2l, h2f, k2, nt2⟩
      rw [List.length_map, List.length_range] at hi
      have pm : line.Perm ws := by
        have h5 := pm0.length_eq
        rw [List.length_append, hi] at h5
        have h6 : rest = [] := List.length_eq_zero_iff.mp (by omega)
        rw [h6, List.append_nil] at pm0
        exact pm0
      have ndl : line.Nodup := pm.nodup_iff.mpr nd
      walk_at "ss"
      refine st_list (k2.sqL (by simp) ha) ?_
      intro l2 nl2
      walk_at "ss"
      intro y dy ny ndy nyy
      refine ⟨y, dy, l2, d, ws, rfl, upd_same, Or.inl (sqL_of ?_), hd, ?_⟩
      · rw [upd_ne (fun z => by rw [← z, upd_same] at ny; exact nomatch ny), upd_ne (fun z => by rw [← z, upd_same] at ndy; exact nomatch ndy), upd_same]
      intro H3 k3 n3 oy
      refine ⟨rfl, ?_⟩
      have s3 : Same H H3 := fun b o e => by
        have e2 := old_upd (o := .lst (ws.map V.str)) nl2 (k2.same _ _ e)
        refine k3 b o ?_ (fun m => (ne_of_none e2 ny) (List.mem_singleton.mp m))
        rw [upd_ne (ne_of_none e2 ny), upd_ne (ne_of_none e2 ndy)]
        exact e2
      have nt3 : NoT H3 := n3 (NoT.upd (o := .ins C dy []) (NoT.upd (o := .own y) nt2.lst trivial) trivial)
      have ln3 : H3 ln = some (.lst (line.map V.str)) := by
        have e2 := old_upd (o := .lst (ws.map V.str)) nl2 h2f
        refine k3 _ _ ?_ (fun m => (ne_of_none e2 ny) (List.mem_singleton.mp m))
        rw [upd_ne (ne_of_none e2 ny), upd_ne (ne_of_none e2 ndy)]
        exact e2
      have tg3 : Tg T0 lamQ H H3 := Tg.of s3 tb nt3
      have ok3 : OrdOk ws [] := OrdOk.nil nd nm h30
      clear k3 n3 nl2 ny ndy k2 nt2 h2l h2f
      walk_at "ss"
      refine ⟨Nat.zero_le _, fun pl npl => ?_⟩
      have npl0 : H pl = none := tg3.none tb npl
      have npl1 : pl ≠ ln := fun z => by
        rw [z, ln3] at npl
        exact nomatch npl
      walk_at "ss"
      refine st_len ((tg3.newL npl).sqL haT ha) ?_
      walk_at "ss"
      rw [List.length_map]
      refine st_I (Or.inl ⟨by decide, by decide⟩) ?_
      walk_at "ss"
      refine ⟨p, _, rfl, (tg3.newL npl).at tb hp (fun ps => by simp [PotO]), nt3.lst, by omega, by omega, fun d5 h5 h6 => ?_⟩
      walk_at "ss"
      obtain ⟨n5, rfl⟩ : ∃ n : Nat, d5 = (n : Int) := ⟨d5.toNat, by omega⟩
      refine ⟨_, rfl, by omega, by omega, ?_⟩
      rw [Int.toNat_natCast]
      refine for_walk wk_range (fun i σ H5 => ∃ (yk ylo yhi : Option V) (y : Addr) (ps prs : List Pr) (rs : List V), σ = [some (.ref p), some (.ref a), some (.ref ln), some (.ref lf), yk, some (.ref y), some (.ref pl), ylo, yhi] ∧ Tg T0 lamQ H H5 ∧ OrdAt C H5 y ws ps ∧ OrdOk ws ps ∧ H5 pl = some (.lst rs) ∧ Prs H5 rs prs ∧ H5 ln = some (.lst (line.map V.str)) ∧ (∀ z, z ∈ prs ↔ z ∈ ps) ∧ (∀ z ∈ prs, ixS line z.1 < ixS line z.2) ∧ prs.length ≤ i)
        ⟨_, _, _, y, [], [], [], rfl, tg3.newL npl, oy.new npl, ok3, upd_same, .nil, old_upd npl ln3, fun z => Iff.rfl, (fun _ z => nomatch z), Nat.le_refl _⟩ (fun _ _ _ _ => trivial) ?_ ?_
      · rintro i x σ H5 hx ⟨yk, ylo, yhi, y, ps, prs, rs, rfl, tg5, oy5, ok5, hpl, hprs, hln, hmem, hrk, hlen⟩
        have hin : i < n5 := by
          have := (List.getElem?_eq_some_iff.mp hx).1
          rw [List.length_map, List.length_range] at this
          exact this
        have hp5 := tg5.at tb hp (fun ps => by simp [PotO])
        have nt5 := tg5.nt nt
        walk_at "ss"
        refine st_len (sqL_of hln) ?_
        walk_at "ss"
        rw [List.length_map]
        refine ⟨p, _, rfl, hp5, nt5, by omega, by omega, fun d1 a1 a2 => ?_⟩
        walk_at "ss"
        refine st_len (sqL_of hln) ?_
        walk_at "ss"
        rw [List.length_map]
        refine ⟨p, _, rfl, hp5, nt5, by omega, by omega, fun d2 b1 b2 => ?_⟩
        walk_at "ss"
        refine ⟨(by show 2 ≤ sizeLine; decide), fun l3 nl3 => ?_⟩
        walk_at "ss"
        refine st_sort2 upd_same ?_
        intro lo hi2 p4 hle hor np4
        refine st_gunl (sqL_of upd_same) rfl ?_
        have tg6 : Tg T0 lamQ H (upd (upd H5 l3 (.lst [.int d1, .int d2])) p4 (.lst [.int lo, .int hi2])) := (tg5.newL nl3).newL np4
        have kk : ∀ c o, H5 c = some o → upd (upd H5 l3 (.lst [.int d1, .int d2])) p4 (.lst [.int lo, .int hi2]) c = some o := fun c o e => old_upd np4 (old_upd nl3 e)
        generalize upd (upd H5 l3 (.lst [.int d1, .int d2])) p4 (.lst [.int lo, .int hi2]) = H6 at tg6 kk ⊢
        have oy6 := oy5.same kk
        have hpl6 := kk _ _ hpl
        have hln6 := kk _ _ hln
        have hprs6 : Prs H6 rs prs := hprs.keep fun b xs e => kk _ _ e
        obtain ⟨j1, hj1, e1, at1⟩ := at_some' (xs := line) (d := lo) (by omega) (by omega)
        obtain ⟨j2, hj2, e2, at2⟩ := at_some' (xs := line) (d := hi2) (by omega) (by omega)
        subst e1 e2
        walk_at "ss"
        by_cases c : (j1 : Int) < (j2 : Int)
        · rw [decide_eq_true c]
          refine iteT ?_
          obtain ⟨dy6, tl6, tp6, rs6, y61, y62, y63, y64⟩ := id oy6
          have q1 : atI (line.map V.str) (j1 : Int) = some (.str line[j1]) := atI_nat (by rw [List.getElem?_map, List.getElem?_eq_getElem hj1]; rfl)
          have q2 : atI (line.map V.str) (j2 : Int) = some (.str line[j2]) := atI_nat (by rw [List.getElem?_map, List.getElem?_eq_getElem hj2]; rfl)
          have r1 : ixS line line[j1] = j1 := ixS_get ndl (List.getElem?_eq_getElem hj1)
          have r2 : ixS line line[j2] = j2 := ixS_get ndl (List.getElem?_eq_getElem hj2)
          have m1 : line[j1] ∈ ws := pm.mem_iff.mp (List.getElem_mem hj1)
          have m2 : line[j2] ∈ ws := pm.mem_iff.mp (List.getElem_mem hj2)
          walk_at "ss"
          refine ⟨y, dy6, _, rfl, y61, rfl, ?_⟩
          walk_at "ss"
          refine st_ixL (sqL_of hln6) q1 ?_
          walk_at "ss"
          refine st_ixL (sqL_of hln6) q2 ?_
          walk_at "ss"
          refine ⟨y, line[j1], line[j2], ws, ps, rfl, oy6, ok5, m1, m2, ?_, ?_, tg6.nt nt, tg6.tab, ?_⟩
          · intro z
            rw [z] at r1
            omega
          · intro z
            have z2 := z.rank (ixS line) (fun p hp => hrk p ((hmem p).mpr hp))
            omega
          intro H7 y7 qs tg7 oy7 ok7 hm7 ny7
          have hpl7 := tg7.at tg6.tab hpl6 (fun ps => by simp)
          have hln7 := tg7.at tg6.tab hln6 (fun ps => by simp)
          have hprs7 := hprs6.tg tg7 tg6.tab
          walk_at "ss"
          refine ⟨Or.inl ⟨rfl, _, sqL_of hpl7⟩, ?_⟩
          walk_at "ss"
          refine st_ixL (sqL_of hln7) q1 ?_
          walk_at "ss"
          refine st_ixL (sqL_of hln7) q2 ?_
          walk_at "ss"
          refine ⟨(by show 2 ≤ sizeLine; decide), fun t5 nt5' => ?_⟩
          have tg8 := (tg6.trans tg7).newT (xs := [.str line[j1], .str line[j2]]) nt5'
          have npt : pl ≠ t5 := ne_of_none hpl7 nt5'
          walk_at "ss"
          refine st_append (old_upd nt5' hpl7) (by rw [hprs.len]; exact small1000 (by omega)) ?_
          walk_at "ss"
          refine ⟨_, _, _, y7, qs, prs ++ [(line[j1], line[j2])], rs ++ [.ref t5], rfl, tg8.own npl0 (old_upd nt5' hpl7), (oy7.new nt5').lst (old_upd nt5' hpl7), ok7, upd_same, ?_, oth_upd npl1.symm (old_upd nt5' hln7), ?_, ?_, ?_⟩
          · refine Prs.app (hprs7.keep fun b xs e => oth_upd (ne_of e hpl7 (fun z => nomatch z)) (old_upd nt5' e)) (.cons ⟨t5, rfl, oth_upd npt.symm upd_same⟩ .nil)
          · intro z
            rw [List.mem_append, List.mem_singleton, hm7, hmem]
          · intro z hz
            rcases List.mem_append.mp hz with e | e
            · exact hrk z e
            · rw [List.mem_singleton.mp e]
              show ixS line line[j1] < ixS line line[j2]
              omega
          · rw [List.length_append]
            show prs.length + 1 ≤ i + 1
            omega
        · rw [decide_eq_false c]
          refine iteF ?_
          walk_at "ss"
          exact ⟨_, _, _, y, ps, prs, rs, rfl, tg6, oy6, ok5, hpl6, hprs6, hln6, hmem, hrk, by omega⟩
      · rintro σ H5 ⟨yk, ylo, yhi, y, ps, prs, rs, rfl, tg5, oy5, ok5, hpl, hprs, hln, hmem, hrk, hlen⟩
        rw [List.length_map, List.length_range] at hlen
        walk_at "ss"
        refine ⟨(by show 3 ≤ sizeLine; decide), fun t nt9 => ?_⟩
        exact q _ t y pl ln rs prs ps line (tg5.newT nt9) upd_same (oy5.new nt9) ok5 (old_upd nt9 hpl) (hprs.keep fun b xs e => old_upd nt9 e) (old_upd nt9 hln) pm hmem hrk (by omega) npl0 nln npl1
end
end K42
namespace K42
open PySem PySem.Spec PyProof.Rows L2 TB LamX NdefX
open C8 (Cal pe_c Mak pe_mk Met pe_mt pe_mt0 pss_cut tCut pe_gc)
abbrev s_held_locks : Stmt := top 4
theorem sc_held_locks : FnScope ["pile", "lock", "life"] ["pile"] (defScope s_held_locks) := ⟨rfl, rfl, rfl, by decide +kernel, rfl, by decide +kernel, by decide +kernel⟩
section
variable {P : Program} {w : World} {K : PySem.W.Frag} {mg : Str → Option Value} {base : Heap} {f C : Addr} {fd : FuncData}
def spHeld : Sp := fun vs H Q _ => ∃ (t : Addr) (rs : List V) (zs : List Str), vs = [.ref t] ∧ H t = some (.tup rs) ∧ PileR H rs zs ∧ zs.length ≤ 1000 ∧ ∀ l, H l = none → Q (.ref l) (upd H l (.lst (zs.map V.str)))
theorem ok_held_locks (F : FnP K "held_locks" s_held_locks f fd) (T : BltA mg) : FnOk P w K mg base CX0 1 f fd ["pile"] spHeld := by
  refine F.ok sc_held_locks (fun vs H Q E h => ?_) (fun cdv A outer s H vs Q E hr h => ⟨_, PSs.nox
(pss_one (ps_ret (pe_lc (own := [("lock", 1), ("life", 2)]) (tt := tYes) rfl sc_held_locks.nd (kPT K (pi_tup (pv 0))) (blkOk_by (N := ["pile", "lock", "life"]) (sc := defScope s_held_locks) (by decide +kernel)) (fun _ _ _ _ _ => kTup K 2 (pg_tup rfl (pgs_cons (pg_name (i := 1) sc_held_locks.nd rfl (Or.inl rfl)) (pgs_cons (pg_name (i := 2) sc_held_locks.nd rfl (Or.inl rfl)) pgs_nil)))) (fun _ _ _ _ _ => pts_nil) (fun _ _ _ _ _ => (pv 1)))))
, ?_⟩)
  · obtain ⟨t, rs, zs, rfl, _⟩ := h
    rfl
  · obtain ⟨t, rs, zs, rfl, h1, h2, hz, q⟩ := h
    walk_at "ss"
    refine ⟨t, rfl, ⟨rs, sqT_of h1⟩, ?_⟩
    have hl : rs.length < sizeLine := by
      rw [h2.len]
      exact small1000 hz
    refine lc_pure (fun v => some (lockOf H v)) wk_tup (fun D acc nD => sqT_of (old_upd nD h1)) ?_ ?_
    · intro D i v acc nD hv ha
      obtain ⟨u, z, x, rfl, hu⟩ := h2.mem v (List.mem_of_getElem? hv)
      refine st_gtup (sqT_of (old_upd nD hu)) rfl ?_
      walk_at "ss"
      refine ⟨rfl, ?_⟩
      walk_at "ss"
      refine iteT ?_
      walk_at "ss"
      exact pur_yes hl hv ha (by rw [lockOf_eq hu])
    · intro D nD
      rw [fm_some, h2.locks]
      exact q D nD
end
end K42
namespace K42
open PySem PySem.Spec PyProof.Rows L2 TB LamX NdefX
open C8 (Cal pe_c Mak pe_mk Met pe_mt pe_mt0 pss_cut tCut pe_gc)
abbrev s_Life___init__ : Stmt := inClass (top 7) 0
theorem sc_Life___init__ : FnScope ["self", "place", "hand", "drafts", "called"] ["self", "place", "hand", "drafts", "called"] (defScope s_Life___init__) := ⟨rfl, rfl, rfl, by decide +kernel, rfl, by decide +kernel, by decide +kernel⟩
abbrev s__law_life : Stmt := top 19
theorem sc__law_life : FnScope ["_law_pot_here", "_law_latches_here", "_law_own", "_law_latch"] ["_law_pot_here", "_law_latches_here"] (defScope s__law_life) := ⟨rfl, rfl, rfl, by decide +kernel, rfl, by decide +kernel, by decide +kernel⟩
section
variable {P : Program} {w : World} {K : PySem.W.Frag} {mg : Str → Option Value} {base : Heap} {f C : Addr} {fd : FuncData}
theorem ok_Life___init__ {kws : List (Str × V)} (F : FunD K "__init__" "Life.__init__" (defArgs s_Life___init__) (defBody s_Life___init__) (defScope s_Life___init__) [] kws f fd) (lc : LifC K C) : FnOk P w K mg base CX0 1 f fd ["self", "place", "hand", "drafts", "called"] (spLifeI C) := by
  refine F.ok sc_Life___init__ (fun vs H Q E h => ?_) (fun cdv A outer s H vs Q E hr h => ⟨_, PSs.nox
(pss_cons (kSFld K (ps_fld (pv 0) (pv 1) rfl))
  (pss_cons (kSFld K (ps_fld (pv 0) (pv 2) rfl))
  (pss_cons (kSFld K (ps_fld (pv 0) (pv 3) rfl))
  (pss_one (kSFld K (ps_fld (pv 0) (pv 4) rfl))))))
, ?_⟩)
  · obtain ⟨x, dx, v1, v2, v3, v4, rfl, _⟩ := h
    rfl
  · obtain ⟨x, dx, v1, v2, v3, v4, rfl, h1, q⟩ := h
    walk_at "ss"
    refine ⟨x, C, dx, _, rfl, h1, lc.cls, lc.n1, by decide, ?_⟩
    walk_at "ss"
    refine ⟨x, C, dx, _, rfl, upd_same, lc.cls, lc.n2, (by show 1 < 1000; decide), ?_⟩
    walk_at "ss"
    refine ⟨x, C, dx, _, rfl, upd_same, lc.cls, lc.n3, (by show 2 < 1000; decide), ?_⟩
    walk_at "ss"
    refine ⟨x, C, dx, _, rfl, upd_same, lc.cls, lc.n4, (by show 3 < 1000; decide), ?_⟩
    walk_at "ss"
    rw [upd_upd, upd_upd, upd_upd]
    exact q
def spLifeD (K : PySem.W.Frag) : Sp := fun vs H Q _ => ∃ (p a : Addr) (ws : List Str), vs = [.ref p, .ref a] ∧ H p = some (PotO p) ∧ SqL K H a (ws.map V.str) ∧ ws.length ≤ 1000 ∧ NoT H ∧ ∀ x, Q (.ref x) H
theorem ok__law_life {gV : List V → List V → List V} {v3 : V} (hgV : ∀ x p h c, gV [x] [p, h, c] = [x, p, h, v3, c]) (F : FnP K "_law_life" s__law_life f fd) (T : BltA mg) (c__law_draw : Cal P w K mg base 1 "_law_draw" spDraw []) (c__law_number : Cal P w K mg base 2 "_law_number" spNumber []) (m_Life_phc : MakK P w K mg base 1 "Life" C (spLifeI C) ["place", "hand", "called"] gV) :
    FnOk P w K mg base CX0 3 f fd ["_law_pot_here", "_law_latches_here"] (spLifeD K) := by
  refine fn_fg (sp := fun vs H Q _ => ∃ (p a : Addr) (ws : List Str), vs = [.ref p, .ref a] ∧ H p = some (PotO p) ∧ SqL K H a (ws.map V.str) ∧ ws.length ≤ 1000 ∧ NoT H ∧ ∀ x H', Same H H' → Q (.ref x) H') ?_ ?_
  · refine F.ok sc__law_life (fun vs H Q E h => ?_) (fun cdv A outer s H vs Q E hr h => ⟨_, PSs.nox
(pss_cons (ps_setLc (i := 2) (own := [("_law_latch", 3)]) rfl sc__law_life.nd rfl rfl (sw_true rfl rfl rfl (by decide +kernel)) (kPI K (pi_list (pv 1))) (blkOk_by (N := ["_law_pot_here", "_law_latches_here", "_law_own", "_law_latch"]) (sc := defScope s__law_life) (by decide +kernel)) (fun _ _ _ _ _ => pg_name (i := 3) sc__law_life.nd rfl (Or.inl rfl)) (fun _ _ _ _ _ => pts_one (pt_cmpR op_eq (pe_c c__law_draw hr (by decide) (by rfl) (pa_cons (pv 0) (pa_cons pe_int pa_nil))) pe_int (nomark _))) (fun _ _ _ _ _ => (pv 3)))
  (pss_one (ps_ret (pe_mkK m_Life_phc hr (by decide) (by rfl) (pk_cons (pe_c c__law_draw hr (by decide) (by rfl) (pa_cons (pv 0) (pa_cons pe_int pa_nil))) (pk_cons (pe_c c__law_number hr (by decide) (by rfl) (pa_cons (pv 0) pa_nil)) (pk_cons (pe_callTy (call_tupK K) (by rfl) T.b_tuple (by decide +kernel) (pa_cons (pv 2) pa_nil)) pk_nil)))))))
, ?_⟩)
    · obtain ⟨p, a, ws, rfl, _⟩ := h
      rfl
    · obtain ⟨p, a, ws, rfl, hp, ha, hz, nt, q⟩ := h
      walk_at "ss"
      refine ⟨a, rfl, ⟨_, ha⟩, ?_⟩
      refine lc_walk (wk_list (xs := ws.map V.str)) (fun D i acc H2 => ∃ zs : List Str, acc = zs.map V.str ∧ zs.length ≤ i ∧ H2 = upd H D (.lst acc) ∧ H D = none) (fun D nD => ⟨[], rfl, Nat.le_refl _, rfl, nD⟩) ?_ ?_ ?_
      · rintro D i acc H2 ⟨zs, rfl, hi, rfl, nD⟩
        exact sqL_new nD ha
      · rintro D i v acc H2 nD hv ⟨zs, rfl, hi, rfl, _⟩
        obtain ⟨z, _, rfl⟩ := List.mem_map.mp (List.mem_of_getElem? hv)
        have hi2 : i < 1000 := by
          have h3 := (List.getElem?_eq_some_iff.mp hv).1
          rw [List.length_map] at h3
          omega
        walk_at "ss"
        refine ⟨rfl, ?_⟩
        walk_at "ss"
        refine ⟨p, 3, rfl, old_upd nD hp, nt.lst, by decide, by decide, fun d h1 h2 => ?_⟩
        walk_at "ss"
        refine ite2 (fun _ => ?_) (fun _ => ?_)
        · walk_at "ss"
          refine ⟨_, upd_same, by rw [List.length_map]; exact small1000 (by omega), _, zs ++ [z], ?_, by rw [List.length_append]; show zs.length + 1 ≤ _; omega, upd_upd, nD⟩
          rw [List.map_append]
          rfl
        · exact ⟨_, zs, rfl, by omega, rfl, nD⟩
      · rintro D acc H2 nD ⟨zs, rfl, hi, rfl, _⟩
        walk_at "ss"
        refine ⟨p, 13, rfl, old_upd nD hp, nt.lst, by decide, by decide, fun d h1 h2 => ?_⟩
        walk_at "ss"
        refine ⟨p, rfl, old_upd nD hp, nt.lst, fun d2 h3 h4 => ?_⟩
        walk_at "ss"
        refine ⟨D, _, rfl, Or.inl ⟨sqL_of upd_same, fun l nl => ?_⟩⟩
        walk_at "ss"
        refine ⟨rfl, rfl, fun x dx nx ndx nxx => ?_⟩
        rw [hgV]
        refine ⟨x, dx, _, _, _, _, rfl, upd_same, rfl, ?_⟩
        rw [upd_upd]
        refine q x _ (fun b o e => ?_)
        have e2 := old_upd (o := .tup (zs.map V.str)) nl (old_upd (o := .lst (zs.map V.str)) nD e)
        rw [upd_ne (ne_of_none e2 nx), upd_ne (ne_of_none e2 ndx)]
        exact e2
  · rintro vs H Q E ⟨p, a, ws, rfl, hp, ha, hz, nt, q⟩
    exact ⟨p, a, ws, rfl, hp, ha, hz, nt, fun x H' sm => ⟨H, Fg.back sm nt, q x⟩⟩
end
end K42
namespace K42
open PySem PySem.Spec PyProof.Rows L2 TB LamX NdefX
open C8 (Cal pe_c Mak pe_mk Met pe_mt pe_mt0 pss_cut tCut pe_gc)
abbrev s_Order_locks : Stmt := inClass (top 9) 2
theorem sc_Order_locks : FnScope ["self"] ["self"] (defScope s_Order_locks) := ⟨rfl, rfl, rfl, by decide +kernel, rfl, by decide +kernel, by decide +kernel⟩
abbrev s_Order_pairs : Stmt := inClass (top 9) 3
theorem sc_Order_pairs : FnScope ["self"] ["self"] (defScope s_Order_pairs) := ⟨rfl, rfl, rfl, by decide +kernel, rfl, by decide +kernel, by decide +kernel⟩
abbrev s_ask_of : Stmt := top 5
theorem sc_ask_of : FnScope ["order", "pile", "lock", "locks", "behind", "gone", "at", "one", "stays"] ["order", "pile", "lock"] (defScope s_ask_of) := ⟨rfl, rfl, rfl, by decide +kernel, rfl, by decide +kernel, by decide +kernel⟩
section
variable {P : Program} {w : World} {K : PySem.W.Frag} {mg : Str → Option Value} {base : Heap} {f C : Addr} {fd : FuncData}
theorem ok_Order_locks (F : FnM K "locks" "Order.locks" s_Order_locks [] f fd) (T : BltA mg) (oc : OrdC K C) : FnOk P w K mg base CX0 1 f fd ["self"] (spLocks C) := by
  refine F.ok sc_Order_locks (fun vs H Q E h => ?_) (fun cdv A outer s H vs Q E hr h => ⟨_, PSs.nox
(pss_one (ps_ret (pe_callTy (call_listK K) (by rfl) T.b_list (by decide +kernel) (pa_cons (kFld K (pe_fld (pv 0) rfl)) pa_nil))))
, ?_⟩)
  · obtain ⟨x, ls, ps, rfl, _⟩ := h
    rfl
  · obtain ⟨x, ls, ps, rfl, ⟨dx, tl, tp, rs, h1, h2, h3, h4⟩, q⟩ := h
    walk_at "ss"
    refine ⟨x, C, dx, _, _, rfl, h1, oc.cls, oc.nl, rfl, ?_⟩
    walk_at "ss"
    exact ⟨tl, _, rfl, Or.inr h2.sq, q⟩
theorem ok_Order_pairs (F : FnM K "pairs" "Order.pairs" s_Order_pairs [] f fd) (T : BltA mg) (oc : OrdC K C) : FnOk P w K mg base CX0 1 f fd ["self"] (spPairs C) := by
  refine F.ok sc_Order_pairs (fun vs H Q E h => ?_) (fun cdv A outer s H vs Q E hr h => ⟨_, PSs.nox
(pss_one (ps_ret (pe_callTy (call_listK K) (by rfl) T.b_list (by decide +kernel) (pa_cons (kFld K (pe_fld (pv 0) rfl)) pa_nil))))
, ?_⟩)
  · obtain ⟨x, ls, ps, rfl, _⟩ := h
    rfl
  · obtain ⟨x, ls, ps, rfl, ⟨dx, tl, tp, rs, h1, h2, h3, h4⟩, q⟩ := h
    walk_at "ss"
    refine ⟨x, C, dx, _, _, rfl, h1, oc.cls, oc.np, rfl, ?_⟩
    walk_at "ss"
    exact ⟨tp, rs, rfl, Or.inr (sqT_of h3), fun l nl => q l rs nl h4⟩
def spAsk (C : Addr) : Sp := fun vs H Q _ => ∃ (x t : Addr) (rs : List V) (zs ls : List Str) (ps : List Pr) (z : Str), vs = [.ref x, .ref t, .str z] ∧ H t = some (.tup rs) ∧ PileR H rs zs ∧ zs.length ≤ 30 ∧ OrdAt C H x ls ps ∧ OrdOk ls ps ∧ (∀ u ∈ zs, u ∈ ls) ∧ z ∈ ls ∧ NoT H ∧
  ∀ (fs : List Str) (H' : Hp) (t' l : Addr) (rs' : List V), (∀ u, u ∈ fs ↔ Rch ps z u) → Same H H' → NoT H' → H' t' = some (.tup [.str (askHow zs fs z), .int (askN zs fs z : Nat), .ref l]) → H' l = some (.lst rs') → Prs H' rs' (askP zs fs z) → H l = none → Q (.ref t') H'
theorem ok_ask_of (F : FnP K "ask_of" s_ask_of f fd) (T : BltA mg) (c_held_locks : Cal P w K mg base 1 "held_locks" spHeld []) (m_Order_locks : Met P w K mg base 1 C "locks" (spLocks C) []) (m_Order_behind : Met P w K mg base 2 C "behind" (spBehind C) []) : FnOk P w K mg base CX0 3 f fd ["order", "pile", "lock"] (spAsk C) := by
  refine F.ok sc_ask_of (fun vs H Q E h => ?_) (fun cdv A outer s H vs Q E hr h => ⟨_, PSs.nox
(pss_cons (ps_if (pt_cmpR (op_ninK K) (pv 2) (pe_mt0 m_Order_locks hr (by decide) (pv 0)) rfl)
    (pss_one ps_never)
    pss_nil)
  (pss_cons (ps_set (i := 3) sc_ask_of.nd rfl (.inl rfl) (pe_c c_held_locks hr (by decide) (by rfl) (pa_cons (pv 1) pa_nil)))
  (pss_cons (ps_if (pt_cmpR (op_inK K) (pv 2) (pv 3) rfl)
    (pss_one (ps_ret (pe_tup (pa_cons pe_str (pa_cons (pe_callB (call_lenK K) (by rfl) T.b_len PySem.boot_len (pa_cons (pv 3) pa_nil)) (pa_cons (pe_lst pa_nil) pa_nil))))))
    pss_nil)
  (pss_cons (ps_set (i := 4) sc_ask_of.nd rfl (.inr rfl) (pe_mt m_Order_behind hr (by decide) (pv 0) (pa_cons (pv 2) pa_nil)))
  (pss_cons (ps_setLc (i := 5) (own := [("at", 6), ("one", 7)]) rfl sc_ask_of.nd rfl rfl (sw_true rfl rfl rfl (by decide +kernel)) (kPEn K (pi_enum (by rfl) T.b_enumerate (pa_cons (pv 3) pa_nil))) (blkOk_by (N := ["order", "pile", "lock", "locks", "behind", "gone", "at", "one", "stays"]) (sc := defScope s_ask_of) (by decide +kernel)) (fun _ _ _ _ _ => kTup K 2 (pg_tup rfl (pgs_cons (pg_name (i := 6) sc_ask_of.nd rfl (Or.inl rfl)) (pgs_cons (pg_name (i := 7) sc_ask_of.nd rfl (Or.inl rfl)) pgs_nil)))) (fun _ _ _ _ _ => pts_one (pt_cmpR (op_inK K) (pv 7) (pv 4) rfl)) (fun _ _ _ _ _ => (pv 6)))
  (pss_cut (ps_set (i := 8) sc_ask_of.nd rfl (.inl rfl) (pe_ifExp (pt_cmpR (op_neDK K hr.units) (pv 5) (pe_lst pa_nil) (nomark _)) (pe_ix (ix_listK K) (pv 5) pe_int (fun _ _ => rfl)) (pe_callB (call_lenK K) (by rfl) T.b_len PySem.boot_len (pa_cons (pv 3) pa_nil))))
  (pss_one (ps_ret (pe_tup (pa_cons (pe_ifExp (pt_cmpR (op_eqDK K hr.units) (pv 5) (pe_lst pa_nil) (nomark _)) pe_str pe_str) (pa_cons (pv 8) (pa_cons (pe_lc (own := [("one", 7)]) (tt := tYes) rfl sc_ask_of.nd (kPI K (pi_list (pe_slice (sl_listK K) (pv 3) po_none (po_some (pv 8))))) (blkOk_by (N := ["order", "pile", "lock", "locks", "behind", "gone", "at", "one", "stays"]) (sc := defScope s_ask_of) (by decide +kernel)) (fun _ _ _ _ _ => pg_name (i := 7) sc_ask_of.nd rfl (Or.inl rfl)) (fun _ _ _ _ _ => pts_nil) (fun _ _ _ _ _ => (pe_tup (pa_cons (pv 7) (pa_cons (pv 2) pa_nil))))) pa_nil))))))))))))
, ?_⟩)
  · obtain ⟨x, t, rs, zs, ls, ps, z, rfl, _⟩ := h
    rfl
  · obtain ⟨x, t, rs, zs, ls, ps, z, rfl, h1, h2, hz, ho, hok, hin, hzl, nt, q⟩ := h
    obtain ⟨dx, tl, tp, rs0, x1, x2, x3, x4⟩ := id ho
    walk_at "ss"
    refine ⟨x, dx, _, rfl, x1, rfl, ?_⟩
    refine ⟨x, ls, ps, rfl, ho, fun l0 nl0 => ?_⟩
    refine st_ninS (Or.inl (sqL_of upd_same)) ?_
    walk_at "ss"
    rw [decide_eq_true hzl]
    refine iteF ?_
    walk_at "ss"
    have s1 : Same H (upd H l0 (.lst (ls.map V.str))) := fun b o e => old_upd nl0 e
    have n1 : NoT (upd H l0 (.lst (ls.map V.str))) := nt.lst
    generalize upd H l0 (.lst (ls.map V.str)) = H1 at s1 n1 ⊢
    refine ⟨t, rs, zs, rfl, s1 _ _ h1, h2.keep fun b xs e => s1 _ _ e, by omega, fun lz nlz => ?_⟩
    have s2 : Same H (upd H1 lz (.lst (zs.map V.str))) := fun b o e => old_upd nlz (s1 _ _ e)
    have n2 : NoT (upd H1 lz (.lst (zs.map V.str))) := n1.lst
    have hlz : upd H1 lz (.lst (zs.map V.str)) lz = some (.lst (zs.map V.str)) := upd_same
    generalize upd H1 lz (.lst (zs.map V.str)) = H2 at s2 n2 hlz ⊢
    have nof : ∀ l, H2 l = none → H l = none := fun l e => by
      cases e2 : H l with
      | none => rfl
      | some o => rw [s2 _ _ e2] at e; exact nomatch e
    walk_at "ss"
    refine st_inS (Or.inl (sqL_of hlz)) ?_
    walk_at "ss"
    by_cases c : z ∈ zs
    · rw [decide_eq_true c]
      refine iteT ?_
      walk_at "ss"
      refine st_len (sqL_of hlz) ?_
      walk_at "ss"
      refine ⟨Nat.zero_le _, fun le nle => ?_⟩
      walk_at "ss"
      refine ⟨(by show 3 ≤ sizeLine; decide), fun t' nt' => ?_⟩
      obtain ⟨fs, hfs⟩ := hok.reachL z
      refine q fs _ t' le [] hfs (fun b o e => old_upd nt' (old_upd nle (s2 _ _ e))) n2.lst.tup ?_ (old_upd nt' upd_same) ?_ (nof _ nle)
      · rw [upd_same, List.length_map]
        unfold askHow askN
        rw [if_pos c, if_pos c]
      · unfold askP
        rw [if_pos c]
        exact .nil
    · rw [decide_eq_false c]
      refine iteF ?_
      walk_at "ss"
      refine ⟨x, dx, _, rfl, s2 _ _ x1, rfl, ?_⟩
      walk_at "ss"
      refine ⟨x, z, ls, ps, rfl, ho.same s2, hok, hzl, n2, fun lb fs nlb hfs => ?_⟩
      walk_at "ss"
      have s3 : Same H (upd H2 lb (.lst ((ls.filter fun z => decide (z ∈ fs)).map V.str))) := fun b o e => old_upd nlb (s2 _ _ e)
      have n3 : NoT (upd H2 lb (.lst ((ls.filter fun z => decide (z ∈ fs)).map V.str))) := n2.lst
      have hlz3 := old_upd (o := .lst ((ls.filter fun z => decide (z ∈ fs)).map V.str)) nlb hlz
      have hlb3 : upd H2 lb (.lst ((ls.filter fun z => decide (z ∈ fs)).map V.str)) lb = some (.lst ((ls.filter fun z => decide (z ∈ fs)).map V.str)) := upd_same
      generalize upd H2 lb (.lst ((ls.filter fun z => decide (z ∈ fs)).map V.str)) = H3 at s3 n3 hlz3 hlb3 ⊢
      refine ⟨lz, _, rfl, sqL_of hlz3, ?_⟩
      refine lc_en (xs := zs.map V.str) (fun D i acc H5 => acc = (goneOf zs fs i).map (fun j => V.int (j : Nat)) ∧ i ≤ 30 ∧ Same H H5 ∧ NoT H5 ∧ H5 lz = some (.lst (zs.map V.str)) ∧ H5 lb = some (.lst ((ls.filter fun z => decide (z ∈ fs)).map V.str)) ∧ H5 D = some (.lst acc) ∧ H3 D = none ∧ lz ≠ D ∧ lb ≠ D) (fun D nD => ⟨rfl, by omega, fun b o e => old_upd nD (s3 _ _ e), n3.lst, old_upd nD hlz3, old_upd nD hlb3, upd_same, nD, ne_of_none hlz3 nD, ne_of_none hlb3 nD⟩) ?_ ?_ ?_
      · rintro D i acc H5 ⟨rfl, hi, s5, n5, hl5, hb5, hD5, nD, n1', n2'⟩
        exact sqL_of hl5
      · rintro D i v acc u H5 _ hv ⟨rfl, hi, s5, n5, hl5, hb5, hD5, nD, n1', n2'⟩ nu
        obtain ⟨hiz, ev⟩ : ∃ hi : i < zs.length, v = .str zs[i] := by
          have h3 := (List.getElem?_eq_some_iff.mp hv).1
          rw [List.length_map] at h3
          rw [List.getElem?_map, List.getElem?_eq_getElem h3] at hv
          exact ⟨h3, (Option.some.inj hv).symm⟩
        subst ev
        have eg : zs.getD i ⟨#[]⟩ = zs[i] := by
          rw [List.getD_eq_getElem?_getD, List.getElem?_eq_getElem hiz]
          rfl
        have hnD : H D = none := by
          cases e : H D with
          | none => rfl
          | some o => rw [s3 _ _ e] at nD; exact nomatch nD
        have glen : (goneOf zs fs i).length ≤ i := by
          have h3 : (goneOf zs fs i).length ≤ (List.range i).length := List.length_filter_le _ _
          rw [List.length_range] at h3
          exact h3
        refine st_gtup (sqT_of upd_same) rfl ?_
        walk_at "ss"
        refine ⟨rfl, ?_⟩
        walk_at "ss"
        refine st_inS (Or.inl (sqL_of (old_upd nu hb5))) ?_
        walk_at "ss"
        have em : zs[i] ∈ ls.filter (fun z => decide (z ∈ fs)) ↔ zs[i] ∈ fs := by
          rw [List.mem_filter, decide_eq_true_iff]
          exact ⟨fun e => e.2, fun e => ⟨hin _ (List.getElem_mem hiz), e⟩⟩
        rw [decide_eq_decide.mpr em]
        by_cases cc : zs[i] ∈ fs
        · rw [decide_eq_true cc]
          refine iteT ?_
          walk_at "ss"
          refine ⟨_, old_upd nu hD5, by rw [List.length_map]; exact small1000 (by omega), (goneOf zs fs (i + 1)).map (fun j => V.int (j : Nat)), rfl, by omega, fun b o e => oth_upd (ne_of_none e hnD) (old_upd nu (s5 _ _ e)), n5.tup.lst, oth_upd n1' (old_upd nu hl5), oth_upd n2' (old_upd nu hb5), ?_, nD, n1', n2'⟩
          rw [upd_same, gone_succ, eg, if_pos cc, List.map_append]
          rfl
        · rw [decide_eq_false cc]
          refine iteF ?_
          refine ⟨(goneOf zs fs (i + 1)).map (fun j => V.int (j : Nat)), rfl, by omega, fun b o e => old_upd nu (s5 _ _ e), n5.tup, old_upd nu hl5, old_upd nu hb5, ?_, nD, n1', n2'⟩
          rw [gone_succ, eg, if_neg cc, List.append_nil]
          exact old_upd nu hD5
      · rintro D acc H5 _ ⟨rfl, hi, s5, n5, hl5, hb5, hD5, nD, n1', n2'⟩
        rw [List.length_map] at hD5
        have hsl := stay_le zs fs
        obtain ⟨g1, g2⟩ := gone_is zs fs zs.length (Nat.le_refl _)
        rw [gone_ints] at hD5
        have hgn : ((goneOf zs fs zs.length).map (fun j : Nat => (j : Int)) = []) ↔ stayOf zs fs = zs.length := by
          rw [List.map_eq_nil_iff]
          constructor
          · intro e
            by_cases c3 : stayOf zs fs < zs.length
            · obtain ⟨r, e2⟩ := g2 c3
              rw [e2] at e
              exact nomatch e
            · omega
          · intro e
            exact g1 (by omega)
        walk_at "ss"
        refine ⟨fun σ' H' => σ' = [some (.ref x), some (.ref t), some (.str z), some (.ref lz), some (.ref lb), some (.ref D), none, none, some (.int (stayOf zs fs : Nat))] ∧ Same H H' ∧ NoT H' ∧ H' lz = some (.lst (zs.map V.str)) ∧ H' D = some (.lst (((goneOf zs fs zs.length).map (fun j : Nat => (j : Int))).map V.int)), ?_, ?_⟩
        · walk_at "ss"
          refine ⟨Nat.zero_le _, fun e0 ne0 => ?_⟩
          refine st_neNilI (old_upd ne0 hD5) upd_same ?_
          walk_at "ss"
          have s6 : Same H (upd H5 e0 (.lst [])) := fun b o e => old_upd ne0 (s5 _ _ e)
          by_cases c3 : stayOf zs fs < zs.length
          · obtain ⟨r, e2⟩ := g2 c3
            rw [decide_eq_false (fun e => by have := hgn.mp e; omega)]
            refine iteT ?_
            walk_at "ss"
            refine st_ixL (sqL_of (old_upd ne0 hD5)) (v := .int (stayOf zs fs : Nat)) ?_ ?_
            · rw [e2]
              exact atI0
            walk_at "ss"
            exact ⟨rfl, s6, n5.lst, old_upd ne0 hl5, old_upd ne0 hD5⟩
          · have e3 : stayOf zs fs = zs.length := by omega
            rw [decide_eq_true (hgn.mpr e3)]
            refine iteF ?_
            walk_at "ss"
            refine st_len (sqL_of (old_upd ne0 hl5)) ?_
            walk_at "ss"
            refine ⟨?_, s6, n5.lst, old_upd ne0 hl5, old_upd ne0 hD5⟩
            rw [List.length_map, e3]
            rfl
        · rintro σ' H6 ⟨rfl, s6, n6, hl6, hD6⟩
          walk_at "ss"
          refine ⟨Nat.zero_le _, fun e1 ne1 => ?_⟩
          refine st_eqNilI (old_upd ne1 hD6) upd_same ?_
          have s7 : Same H (upd H6 e1 (.lst [])) := fun b o e => old_upd ne1 (s6 _ _ e)
          have n7 : NoT (upd H6 e1 (.lst [])) := n6.lst
          have hl7 := old_upd (o := .lst []) ne1 hl6
          generalize upd H6 e1 (.lst []) = H7 at s7 n7 hl7 ⊢
          walk_at "ss"
          have key : ∀ how : Str, how = askHow zs fs z → tCons (tVar 8) (tCons (tLc (iList K (tSl (rSlL K) (tVar 3) tNoPart (tPart (tVar 8)))) (gName 7) tYes (tTup (tCons (tVar 7) (tCons (tVar 2) tNil))) (List.map (fun x => x.snd) [(("one" : Str), 7)])) tNil) [some (.ref x), some (.ref t), some (.str z), some (.ref lz), some (.ref lb), some (.ref D), none, none, some (.int (stayOf zs fs : Nat))] H7 (fun xs H2 => (V.str how :: xs).length ≤ sizeLine ∧ ∀ p, H2 p = none → Q (.ref p) (upd H2 p (.tup (V.str how :: xs)))) := by
            intro how ehow
            walk_at "ss"
            refine ⟨lz, _, rfl, sqL_of hl7, ?_⟩
            intro c4 nc4
            rw [cut_to, ← List.map_take]
            refine ⟨c4, rfl, ⟨_, sqL_of upd_same⟩, ?_⟩
            refine lc_walk (wk_list (xs := (zs.take (stayOf zs fs)).map V.str)) (fun E2 i acc H8 => Same H H8 ∧ NoT H8 ∧ H8 c4 = some (.lst ((zs.take (stayOf zs fs)).map V.str)) ∧ H8 E2 = some (.lst acc) ∧ Prs H8 acc (((zs.take (stayOf zs fs)).take i).map fun y => (y, z)) ∧ H E2 = none ∧ c4 ≠ E2) (fun E2 nE => ⟨fun b o e => old_upd nE (old_upd nc4 (s7 _ _ e)), n7.lst.lst, old_upd nE upd_same, upd_same, .nil, ?_, (nil_upd nE).1.symm⟩) ?_ ?_ ?_
            · cases e : H E2 with
              | none => rfl
              | some o => rw [old_upd nc4 (s7 _ _ e)] at nE; exact nomatch nE
            · rintro E2 i acc H8 ⟨s8, n8, hc8, hE8, pr8, nE, ncE⟩
              exact sqL_of hc8
            · rintro E2 i v acc H8 _ hv ⟨s8, n8, hc8, hE8, pr8, nE, ncE⟩
              obtain ⟨y, hy, rfl⟩ : ∃ y, (zs.take (stayOf zs fs))[i]? = some y ∧ v = .str y := by
                have h3 := (List.getElem?_eq_some_iff.mp hv).1
                rw [List.length_map] at h3
                rw [List.getElem?_map, List.getElem?_eq_getElem h3] at hv
                exact ⟨_, List.getElem?_eq_getElem h3, (Option.some.inj hv).symm⟩
              have hacc : acc.length ≤ 30 := by
                rw [pr8.len, List.length_map, List.length_take, List.length_take]
                omega
              walk_at "ss"
              refine ⟨rfl, ?_⟩
              walk_at "ss"
              refine iteT ?_
              walk_at "ss"
              refine ⟨(by show 2 ≤ sizeLine; decide), fun u nu => ?_⟩
              have nEu : E2 ≠ u := ne_of_none hE8 nu
              refine ⟨_, old_upd nu hE8, small1000 (by omega), acc ++ [.ref u], fun b o e => oth_upd (ne_of_none e nE) (old_upd nu (s8 _ _ e)), n8.tup.lst, oth_upd ncE (old_upd nu hc8), upd_same, ?_, nE, ncE⟩
              rw [take_next hy, List.map_append]
              exact Prs.app (pr8.keep fun b xs e => oth_upd (ne_of e hE8 (fun z => nomatch z)) (old_upd nu e)) (.cons ⟨u, rfl, oth_upd nEu.symm upd_same⟩ .nil)
            · rintro E2 acc H8 _ ⟨s8, n8, hc8, hE8, pr8, nE, ncE⟩
              rw [List.length_map, List.take_length] at pr8
              walk_at "ss"
              refine ⟨(by show 3 ≤ sizeLine; decide), fun t' nt' => ?_⟩
              refine q fs _ t' E2 acc hfs (fun b o e => old_upd nt' (s8 _ _ e)) n8.tup ?_ (old_upd nt' hE8) ?_ nE
              · rw [upd_same, ehow]
                unfold askN
                rw [if_neg c]
              · unfold askP
                rw [if_neg c]
                exact pr8.keep fun b xs e => old_upd nt' e
          by_cases c5 : stayOf zs fs = zs.length
          · rw [decide_eq_true (hgn.mpr c5)]
            refine iteT ?_
            exact key _ (by unfold askHow; rw [if_neg c, if_pos c5])
          · rw [decide_eq_false (fun e => c5 (hgn.mp e))]
            refine iteF ?_
            exact key _ (by unfold askHow; rw [if_neg c, if_neg c5])
end
end K42
namespace K42
open PySem PySem.Spec PyProof.Rows L2 TB LamX NdefX
open C8 (Cal pe_c Mak pe_mk Met pe_mt pe_mt0 pss_cut tCut pe_gc)
abbrev s__law_all_behind : Stmt := top 17
theorem sc__law_all_behind : FnScope ["_law_pairs", "_law_latch", "_law_found", "_law_left", "_law_here", "_law_low", "_law_high"] ["_law_pairs", "_law_latch"] (defScope s__law_all_behind) := ⟨rfl, rfl, rfl, by decide +kernel, rfl, by decide +kernel, by decide +kernel⟩
section
variable {P : Program} {w : World} {K : PySem.W.Frag} {mg : Str → Option Value} {base : Heap} {f C : Addr} {fd : FuncData}
def spAllB : Sp := fun vs H Q _ => ∃ (b : Addr) (z : Str) (rs : List V) (prs : List Pr), vs = [.ref b, .str z] ∧ H b = some (.lst rs) ∧ Prs H rs prs ∧ (∀ p ∈ prs, NmP p) ∧ Nm z ∧ prs.length ≤ 100 ∧ NoT H ∧
  ∀ (l : Addr) (fs : List Str), H l = none → (∀ u, u ∈ fs ↔ Rch prs z u) → Q (.ref l) (upd H l (.lst (fs.map V.str)))
theorem ok__law_all_behind (F : FnP K "_law_all_behind" s__law_all_behind f fd) (T : BltA mg) : FnOk P w K mg base CX0 1 f fd ["_law_pairs", "_law_latch"] spAllB := by
  refine fn_fg (sp := fun vs H Q _ => ∃ (b : Addr) (z : Str) (rs : List V) (prs : List Pr), vs = [.ref b, .str z] ∧ H b = some (.lst rs) ∧ Prs H rs prs ∧ (∀ p ∈ prs, NmP p) ∧ Nm z ∧ prs.length ≤ 100 ∧ NoT H ∧
    ∀ (l : Addr) (fs : List Str) (H' : Hp), H l = none → (∀ u, u ∈ fs ↔ Rch prs z u) → Kp [] H H' → H' l = some (.lst (fs.map V.str)) → Q (.ref l) H') ?_ ?_
  · refine F.ok sc__law_all_behind (fun vs H Q E h => ?_) (fun cdv A outer s H vs Q E hr h => ⟨_, PSs.nox
(pss_cons (ps_par (i := 2) (j := 3) rfl sc__law_all_behind.nd rfl rfl (by decide) rfl rfl (pa_cons (pe_lst pa_nil) (pa_cons (pe_lst (pa_cons (pv 1) pa_nil)) pa_nil)) rfl)
  (pss_cons (ps_while PassesOwn.never (pt_cmpR (op_neDK K hr.units) (pv 3) (pe_lst pa_nil) (nomark _))
    (pss_cons (ps_set (i := 4) sc__law_all_behind.nd rfl (.inl rfl) (kBM0 K (pe_bm0 PySem.F.plainAttrs_list PySem.F.slot_list_pop PySem.F.type_list_pop mt_pop (pv 3))))
      (pss_one (ps_for PassesOwn.never rfl (kPI K (pi_list (pv 0))) (kTup K 2 (pg_tup rfl (pgs_cons (pg_name (i := 5) sc__law_all_behind.nd rfl (.inl rfl)) (pgs_cons (pg_name (i := 6) sc__law_all_behind.nd rfl (.inl rfl)) pgs_nil))))
        (pss_one (ps_if (PW.pt (pw_and (pt_cmpR op_eq (pv 5) (pv 4) (nomark _)) (pw_and1 (pt_cmpR (op_ninK K) (pv 6) (pv 2) rfl))))
            (pss_cons (ps_expr (kBM K (pe_bm PySem.F.plainAttrs_list PySem.F.slot_list_append PySem.F.type_list_append mt_append (pv 2) (pa_cons (pv 6) pa_nil))))
              (pss_one (ps_expr (kBM K (pe_bm PySem.F.plainAttrs_list PySem.F.slot_list_append PySem.F.type_list_append mt_append (pv 3) (pa_cons (pv 6) pa_nil))))))
            pss_nil))))))
  (pss_one (ps_ret (pv 2)))))
, ?_⟩)
    · obtain ⟨b, z, rs, prs, rfl, _⟩ := h
      rfl
    · obtain ⟨b, z, rs, prs, rfl, hb, hprs, nprs, nz, hn, nt, q⟩ := h
      walk_at "ss"
      refine ⟨Nat.zero_le _, fun fa nfa => ?_⟩
      walk_at "ss"
      refine ⟨(by show 1 ≤ sizeLine; decide), fun la nla => ?_⟩
      walk_at "ss"
      obtain ⟨nlf, nla0⟩ := nil_upd nla
      have key : (prs.map fun p => p.2).length = prs.length := List.length_map _
      refine ⟨fun m σ H2 => ∃ (fs lf : List Str) (y4 y5 y6 : Option V), σ = [some (.ref b), some (.str z), some (.ref fa), some (.ref la), y4, y5, y6] ∧ Kp [] H H2 ∧ NoT H2 ∧ H2 fa = some (.lst (fs.map V.str)) ∧ H2 la = some (.lst (lf.map V.str)) ∧ m = 2 * (prs.length - fs.length) + lf.length ∧ BInv (prs.map fun p => p.2) prs z fs lf ∧ m ≤ 2 * prs.length + 1,
        ⟨_, [], [z], none, none, none, rfl, ((Kp.refl H).new nfa).new nla, nt.lst.lst, oth_upd nlf.symm upd_same, upd_same, rfl, BInv.init, (by show 2 * (prs.length - 0) + 1 ≤ _; omega)⟩, ?_⟩
      rintro m σ H2 ⟨fs, lf, y4, y5, y6, rfl, k2, nt2, hfa, hla, rfl, bi, hm⟩
      have nfs : ∀ u ∈ fs, Nm u := fun u hu => by
        obtain ⟨p, hp, e⟩ := List.mem_map.mp (bi.ins u hu)
        rw [← e]
        exact (nprs p hp).2
      have nlf2 : ∀ u ∈ lf, Nm u := fun u hu => (bi.lft u hu).elim (fun e => by rw [e]; exact nz) (fun e => nfs u e)
      walk_at "ss"
      refine ⟨Nat.zero_le _, fun e0 ne0 => ?_⟩
      refine st_neNil nlf2 (old_upd ne0 hla) upd_same ?_
      walk_at "ss"
      have k3 : Kp [] H (upd H2 e0 (.lst [])) := k2.new ne0
      have nt3 : NoT (upd H2 e0 (.lst [])) := nt2.lst
      replace hfa := old_upd (o := .lst []) ne0 hfa
      replace hla := old_upd (o := .lst []) ne0 hla
      generalize upd H2 e0 (.lst []) = H3 at k3 nt3 hfa hla ⊢
      rcases List.eq_nil_or_concat lf with e | ⟨lf', l, e⟩
      · subst e
        refine iteF ?_
        walk_at "ss"
        exact q fa fs H3 nfa bi.done k3 hfa
      · rw [List.concat_eq_append] at e
        subst e
        rw [decide_eq_false (by simp)]
        refine iteT ⟨fun σ' H' => ∃ m', m' < 2 * (prs.length - fs.length) + (lf' ++ [l]).length ∧ ∃ (fs lf : List Str) (y4 y5 y6 : Option V), σ' = [some (.ref b), some (.str z), some (.ref fa), some (.ref la), y4, y5, y6] ∧ Kp [] H H' ∧ NoT H' ∧ H' fa = some (.lst (fs.map V.str)) ∧ H' la = some (.lst (lf.map V.str)) ∧ m' = 2 * (prs.length - fs.length) + lf.length ∧ BInv (prs.map fun p => p.2) prs z fs lf ∧ m' ≤ 2 * prs.length + 1, fun _ _ z => z, ?_⟩
        walk_at "ss"
        refine ⟨Or.inl ⟨rfl, _, sqL_of hla⟩, la, _, .str l, rfl, rfl, hla, by simp, ?_⟩
        walk_at "ss"
        have ed : ((lf' ++ [l]).map V.str).dropLast = lf'.map V.str := by simp
        rw [ed]
        have nbl : b ≠ la := ne_of_none hb nla0
        have nbf : b ≠ fa := ne_of_none hb nfa
        have k4 : Kp [] H (upd H3 la (.lst (lf'.map V.str))) := k3.own nla0
        have nt4 : NoT (upd H3 la (.lst (lf'.map V.str))) := nt3.lst
        have hfa4 : upd H3 la (.lst (lf'.map V.str)) fa = some (.lst (fs.map V.str)) := oth_upd nlf.symm hfa
        have hla4 : upd H3 la (.lst (lf'.map V.str)) la = some (.lst (lf'.map V.str)) := upd_same
        generalize upd H3 la (.lst (lf'.map V.str)) = H4 at k4 nt4 hfa4 hla4 ⊢
        rw [List.length_append, List.length_singleton] at hm ⊢
        refine ⟨b, rfl, ⟨rs, sqL_of (k4.same _ _ hb)⟩, ?_⟩
        refine for_walk (wk_list (xs := rs)) (fun j σ H5 => ∃ (fs2 lf2 : List Str) (y5 y6 : Option V), σ = [some (.ref b), some (.str z), some (.ref fa), some (.ref la), some (.str l), y5, y6] ∧ Kp [] H H5 ∧ NoT H5 ∧ H5 fa = some (.lst (fs2.map V.str)) ∧ H5 la = some (.lst (lf2.map V.str)) ∧ JInv (prs.map fun p => p.2) prs (prs.take j) z l fs2 lf2 ∧ 2 * (prs.length - fs2.length) + lf2.length ≤ 2 * (prs.length - fs.length) + lf'.length)
          ⟨fs, lf', _, _, rfl, k4, nt4, hfa4, hla4, JInv.start bi, Nat.le_refl _⟩ ?_ ?_ ?_
        · rintro j σ H5 ⟨fs2, lf2, y5, y6, rfl, k5, nt5, hf5, hl5, ji, hme⟩
          exact sqL_of (k5.same _ _ hb)
        · rintro j v σ H5 hv ⟨fs2, lf2, y5, y6, rfl, k5, nt5, hf5, hl5, ji, hme⟩
          obtain ⟨t, p, rfl, hp, ht⟩ := hprs.get hv
          have hpm : p ∈ prs := List.mem_of_getElem? hp
          have hfl := nodup_le ji.nd ji.ins
          rw [List.length_map] at hfl
          refine st_gtup (sqT_of (k5.same _ _ ht)) rfl ?_
          walk_at "ss"
          by_cases c1 : p.1 = l
          · rw [decide_eq_true (congrArg V.str c1)]
            refine iteT ?_
            walk_at "ss"
            refine st_ninS (Or.inl (sqL_of hf5)) ?_
            walk_at "ss"
            by_cases c2 : p.2 ∈ fs2
            · rw [decide_eq_true c2]
              refine iteF ?_
              walk_at "ss"
              refine ⟨fs2, lf2, _, _, rfl, k5, nt5, hf5, hl5, ?_, hme⟩
              rw [take_next hp]
              exact ji.skip (fun _ => c2)
            · rw [decide_eq_false c2]
              refine iteT ?_
              have ji2 := ji.put hpm c1 c2 (List.mem_map.mpr ⟨p, hpm, rfl⟩)
              have hfl2 := nodup_le ji2.nd ji2.ins
              rw [List.length_map, List.length_append, List.length_singleton] at hfl2
              walk_at "ss"
              refine ⟨Or.inl ⟨rfl, _, sqL_of hf5⟩, ?_⟩
              walk_at "ss"
              refine st_append hf5 (by rw [List.length_map]; exact small1000 (by omega)) ?_
              walk_at "ss"
              refine ⟨Or.inl ⟨rfl, _, sqL_of (oth_upd nlf hl5)⟩, ?_⟩
              walk_at "ss"
              refine st_append (oth_upd nlf hl5) (by rw [List.length_map]; exact small1000 (by omega)) ?_
              refine ⟨fs2 ++ [p.2], lf2 ++ [p.2], _, _, rfl, (k5.own nfa).own nla0, nt5.lst.lst, ?_, ?_, ?_, ?_⟩
              · rw [upd_ne nlf.symm, upd_same, List.map_append]
                rfl
              · rw [upd_same, List.map_append]
                rfl
              · rw [take_next hp]
                exact ji2
              · rw [List.length_append, List.length_append, List.length_singleton]
                omega
          · rw [decide_eq_false (fun e => c1 (V.str.inj e))]
            refine iteF ?_
            refine iteF ?_
            walk_at "ss"
            refine ⟨fs2, lf2, _, _, rfl, k5, nt5, hf5, hl5, ?_, hme⟩
            rw [take_next hp]
            exact ji.skip (fun e => absurd e c1)
        · rintro σ H5 ⟨fs2, lf2, y5, y6, rfl, k5, nt5, hf5, hl5, ji, hme⟩
          rw [hprs.len, List.take_length] at ji
          exact ⟨_, by omega, fs2, lf2, _, _, _, rfl, k5, nt5, hf5, hl5, rfl, ji.done, by omega⟩
  · rintro vs H Q E ⟨b, z, rs, prs, rfl, hb, hprs, nprs, nz, hn, nt, q⟩
    exact ⟨b, z, rs, prs, rfl, hb, hprs, nprs, nz, hn, nt, fun l fs H' nl hf k e => ⟨_, Fg.one k.same nt nl e trivial (fun _ => trivial), q l fs nl hf⟩⟩
end
end K42
namespace K42
open PySem PySem.Spec PyProof.Rows L2 TB LamX NdefX
open C8 (Cal pe_c Mak pe_mk Met pe_mt pe_mt0 pss_cut tCut pe_gc)
abbrev s__law_due : Stmt := top 20
theorem sc__law_due : FnScope ["_law_some_here", "_law_pairs", "_law_latch", "_law_behind", "_law_stays", "_law_low"] ["_law_some_here", "_law_pairs", "_law_latch"] (defScope s__law_due) := ⟨rfl, rfl, rfl, by decide +kernel, rfl, by decide +kernel, by decide +kernel⟩
section
variable {P : Program} {w : World} {K : PySem.W.Frag} {mg : Str → Option Value} {base : Heap} {f C : Addr} {fd : FuncData}
def spDue (K : PySem.W.Frag) : Sp := fun vs H Q _ => ∃ (a b : Addr) (z : Str) (zs : List Str) (rs : List V) (prs : List Pr), vs = [.ref a, .ref b, .str z] ∧ SqL K H a (zs.map V.str) ∧ zs.length ≤ 30 ∧ H b = some (.lst rs) ∧ Prs H rs prs ∧ (∀ p ∈ prs, NmP p) ∧ Nm z ∧ prs.length ≤ 100 ∧ NoT H ∧
  ∀ (fs : List Str) (H' : Hp) (t' l : Addr) (rs' : List V), (∀ u, u ∈ fs ↔ Rch prs z u) → Same H H' → NoT H' → H' t' = some (.tup [.str (askHow zs fs z), .int (askN zs fs z : Nat), .ref l]) → H' l = some (.lst rs') → Prs H' rs' (askP zs fs z) → H l = none → Q (.ref t') H'
theorem ok__law_due (F : FnP K "_law_due" s__law_due f fd) (T : BltA mg) (c__law_all_behind : Cal P w K mg base 1 "_law_all_behind" spAllB []) : FnOk P w K mg base CX0 2 f fd ["_law_some_here", "_law_pairs", "_law_latch"] (spDue K) := by
  refine F.ok sc__law_due (fun vs H Q E h => ?_) (fun cdv A outer s H vs Q E hr h => ⟨_, PSs.nox
(pss_cons (ps_if (pt_cmpR (op_inK K) (pv 2) (pv 0) rfl)
    (pss_one (ps_ret (pe_tup (pa_cons pe_str (pa_cons (pe_callB (call_lenK K) (by rfl) T.b_len PySem.boot_len (pa_cons (pv 0) pa_nil)) (pa_cons (pe_lst pa_nil) pa_nil))))))
    pss_nil)
  (pss_cons (ps_set (i := 3) sc__law_due.nd rfl (.inl rfl) (pe_c c__law_all_behind hr (by decide) (by rfl) (pa_cons (pv 1) (pa_cons (pv 2) pa_nil))))
  (pss_cons (ps_set (i := 4) sc__law_due.nd rfl (.inl rfl) pe_int)
  (pss_cons (ps_while PassesOwn.never (PW.pt (pw_and (pt_cmpR op_lt (pv 4) (pe_callB (call_lenK K) (by rfl) T.b_len PySem.boot_len (pa_cons (pv 0) pa_nil)) (nomark _)) (pw_and1 (pt_cmpR (op_ninK K) (pe_ix (ix_listK K) (pv 0) (pv 4) (fun _ _ => rfl)) (pv 3) rfl))))
    (pss_one (ps_set (i := 4) sc__law_due.nd rfl (.inl rfl) (pe_op op_add (pv 4) pe_int))))
  (pss_one (ps_ret (pe_tup (pa_cons (pe_ix (ix_listK K) (pe_lst (pa_cons pe_str (pa_cons pe_str pa_nil))) (pe_callTy call_intB (by rfl) T.b_int (by decide +kernel) (pa_cons (pe_cmpR op_eq (pv 4) (pe_callB (call_lenK K) (by rfl) T.b_len PySem.boot_len (pa_cons (pv 0) pa_nil)) (nomark _)) pa_nil)) (fun _ _ => rfl)) (pa_cons (pv 4) (pa_cons (pe_lc (own := [("_law_low", 5)]) (tt := tYes) rfl sc__law_due.nd (kPI K (pi_list (pe_slice (sl_listK K) (pv 0) po_none (po_some (pv 4))))) (blkOk_by (N := ["_law_some_here", "_law_pairs", "_law_latch", "_law_behind", "_law_stays", "_law_low"]) (sc := defScope s__law_due) (by decide +kernel)) (fun _ _ _ _ _ => pg_name (i := 5) sc__law_due.nd rfl (Or.inl rfl)) (fun _ _ _ _ _ => pts_nil) (fun _ _ _ _ _ => (pe_tup (pa_cons (pv 5) (pa_cons (pv 2) pa_nil))))) pa_nil))))))))))
, ?_⟩)
  · obtain ⟨a, b, z, zs, rs, prs, rfl, _⟩ := h
    rfl
  · obtain ⟨a, b, z, zs, rs, prs, rfl, ha, hz, hb, hprs, nprs, nz, hn, nt, q⟩ := h
    have nof : ∀ (G : Hp), Same H G → ∀ l, G l = none → H l = none := fun G s l e => by
      cases e2 : H l with
      | none => rfl
      | some o => rw [s _ _ e2] at e; exact nomatch e
    walk_at "ss"
    refine st_inS (Or.inl ha) ?_
    walk_at "ss"
    by_cases c : z ∈ zs
    · rw [decide_eq_true c]
      refine iteT ?_
      walk_at "ss"
      refine st_len ha ?_
      walk_at "ss"
      refine ⟨Nat.zero_le _, fun le nle => ?_⟩
      walk_at "ss"
      refine ⟨(by show 3 ≤ sizeLine; decide), fun t' nt' => ?_⟩
      obtain ⟨fs, hfs⟩ := reachP prs z
      refine q fs _ t' le [] hfs (fun b o e => old_upd nt' (old_upd nle e)) nt.lst.tup ?_ (old_upd nt' upd_same) ?_ nle
      · rw [upd_same, List.length_map]
        unfold askHow askN
        rw [if_pos c, if_pos c]
      · unfold askP
        rw [if_pos c]
        exact .nil
    · rw [decide_eq_false c]
      refine iteF ?_
      walk_at "ss"
      refine ⟨b, z, rs, prs, rfl, hb, hprs, nprs, nz, hn, nt, fun lb fs nlb hfs => ?_⟩
      have s1 : Same H (upd H lb (.lst (fs.map V.str))) := fun _ _ e => old_upd nlb e
      have ha1 : SqL K (upd H lb (.lst (fs.map V.str))) a (zs.map V.str) := sqL_new nlb ha
      walk_at "ss"
      have hsl := stay_le zs fs
      have key : tRet (tTup (tCons (tOp (rIxL K) (tLst (tCons (tC (V.str "back")) (tCons (tC (V.str "asks")) tNil))) (tCB rInt1 (tCons (tOp rEq (tVar 4) (tCB (rLenL K) (tCons (tVar 0) tNil))) tNil))) (tCons (tVar 4) (tCons (tLc (iList K (tSl (rSlL K) (tVar 0) tNoPart (tPart (tVar 4)))) (gName 5) tYes (tTup (tCons (tVar 5) (tCons (tVar 2) tNil))) (List.map (fun x => x.snd) [(("_law_low" : Str), 5)])) tNil))))
          { nx := fun x H' => Q V.non H', rt := Q } [some (V.ref a), some (V.ref b), some (V.str z), some (V.ref lb), some (V.int (stayOf zs fs : Nat)), none] (upd H lb (HO.lst (List.map V.str fs))) := by
        have n1 : NoT (upd H lb (.lst (fs.map V.str))) := nt.lst
        generalize upd H lb (.lst (fs.map V.str)) = H1 at s1 ha1 n1 ⊢
        walk_at "ss"
        refine ⟨(by show 2 ≤ sizeLine; decide), fun lw nlw => ?_⟩
        walk_at "ss"
        refine st_len (sqL_new nlw ha1) ?_
        walk_at "ss"
        refine st_ixL (sqL_of upd_same) (v := .str (askHow zs fs z)) ?_ ?_
        · rw [List.length_map]
          unfold askHow
          rw [if_neg c]
          by_cases c5 : stayOf zs fs = zs.length
          · rw [if_pos c5, c5, decide_eq_true rfl, if_pos rfl]
            exact atI_nat (j := 1) rfl
          · rw [if_neg c5, decide_eq_false (fun e => c5 (by have := V.int.inj e; omega)), if_neg (by decide)]
            exact atI_nat (j := 0) rfl
        have s2 : Same H (upd H1 lw (.lst [.str "back", .str "asks"])) := fun _ _ e => old_upd nlw (s1 _ _ e)
        have ha2 : SqL K (upd H1 lw (.lst [.str "back", .str "asks"])) a (zs.map V.str) := sqL_new nlw ha1
        have n2 : NoT (upd H1 lw (.lst [.str "back", .str "asks"])) := n1.lst
        generalize upd H1 lw (.lst [.str "back", .str "asks"]) = H7 at s2 ha2 n2 ⊢
        walk_at "ss"
        refine ⟨a, _, rfl, ha2, ?_⟩
        intro c4 nc4
        rw [cut_to, ← List.map_take]
        refine ⟨c4, rfl, ⟨_, sqL_of upd_same⟩, ?_⟩
        refine lc_walk (wk_list (xs := (zs.take (stayOf zs fs)).map V.str)) (fun E2 i acc H8 => Same H H8 ∧ NoT H8 ∧ H8 c4 = some (.lst ((zs.take (stayOf zs fs)).map V.str)) ∧ H8 E2 = some (.lst acc) ∧ Prs H8 acc (((zs.take (stayOf zs fs)).take i).map fun y => (y, z)) ∧ H E2 = none ∧ c4 ≠ E2) (fun E2 nE => ⟨fun b o e => old_upd nE (old_upd nc4 (s2 _ _ e)), n2.lst.lst, old_upd nE upd_same, upd_same, .nil, nof _ (fun b o e => old_upd nc4 (s2 _ _ e)) _ nE, (nil_upd nE).1.symm⟩) ?_ ?_ ?_
        · rintro E2 i acc H8 ⟨s8, n8, hc8, hE8, pr8, nE, ncE⟩
          exact sqL_of hc8
        · rintro E2 i v acc H8 _ hv ⟨s8, n8, hc8, hE8, pr8, nE, ncE⟩
          obtain ⟨y, hy, rfl⟩ : ∃ y, (zs.take (stayOf zs fs))[i]? = some y ∧ v = .str y := by
            have h3 := (List.getElem?_eq_some_iff.mp hv).1
            rw [List.length_map] at h3
            rw [List.getElem?_map, List.getElem?_eq_getElem h3] at hv
            exact ⟨_, List.getElem?_eq_getElem h3, (Option.some.inj hv).symm⟩
          have hacc : acc.length ≤ 30 := by
            rw [pr8.len, List.length_map, List.length_take, List.length_take]
            omega
          walk_at "ss"
          refine ⟨rfl, ?_⟩
          walk_at "ss"
          refine iteT ?_
          walk_at "ss"
          refine ⟨(by show 2 ≤ sizeLine; decide), fun u nu => ?_⟩
          have nEu : E2 ≠ u := ne_of_none hE8 nu
          refine ⟨_, old_upd nu hE8, small1000 (by omega), acc ++ [.ref u], fun b o e => oth_upd (ne_of_none e nE) (old_upd nu (s8 _ _ e)), n8.tup.lst, oth_upd ncE (old_upd nu hc8), upd_same, ?_, nE, ncE⟩
          rw [take_next hy, List.map_append]
          exact Prs.app (pr8.keep fun b xs e => oth_upd (ne_of e hE8 (fun z => nomatch z)) (old_upd nu e)) (.cons ⟨u, rfl, oth_upd nEu.symm upd_same⟩ .nil)
        · rintro E2 acc H8 _ ⟨s8, n8, hc8, hE8, pr8, nE, ncE⟩
          rw [List.length_map, List.take_length] at pr8
          walk_at "ss"
          refine ⟨(by show 3 ≤ sizeLine; decide), fun t' nt' => ?_⟩
          refine q fs _ t' E2 acc hfs (fun b o e => old_upd nt' (s8 _ _ e)) n8.tup ?_ (old_upd nt' hE8) ?_ nE
          · rw [upd_same]
            unfold askN
            rw [if_neg c]
          · unfold askP
            rw [if_neg c]
            exact pr8.keep fun b xs e => old_upd nt' e
      refine ⟨fun m σ H2 => ∃ i : Nat, σ = [some (.ref a), some (.ref b), some (.str z), some (.ref lb), some (.int (i : Int)), none] ∧ H2 = upd H lb (.lst (fs.map V.str)) ∧ i ≤ stayOf zs fs ∧ m = stayOf zs fs - i, ⟨_, 0, rfl, rfl, Nat.zero_le _, rfl⟩, ?_⟩
      rintro m σ H2 ⟨i, rfl, rfl, hi, rfl⟩
      walk_at "ss"
      refine st_len ha1 ?_
      walk_at "ss"
      rw [List.length_map]
      by_cases c1 : (i : Int) < (zs.length : Int)
      · rw [decide_eq_true c1]
        refine iteT ?_
        have hiz : i < zs.length := by omega
        have eg : zs.getD i ⟨#[]⟩ = zs[i] := by
          rw [List.getD_eq_getElem?_getD, List.getElem?_eq_getElem hiz]
          rfl
        walk_at "ss"
        refine st_ixL ha1 (v := .str zs[i]) (atI_nat (by rw [List.getElem?_map, List.getElem?_eq_getElem hiz]; rfl)) ?_
        walk_at "ss"
        refine st_ninS (Or.inl (sqL_of upd_same)) ?_
        walk_at "ss"
        by_cases c2 : i < stayOf zs fs
        · have c3 : zs[i] ∉ fs := by
            rw [← eg]
            exact stay_out c2
          rw [decide_eq_false c3]
          refine iteT ⟨fun σ' H' => ∃ m', m' < stayOf zs fs - i ∧ ∃ i : Nat, σ' = [some (.ref a), some (.ref b), some (.str z), some (.ref lb), some (.int (i : Int)), none] ∧ H' = upd H lb (.lst (fs.map V.str)) ∧ i ≤ stayOf zs fs ∧ m' = stayOf zs fs - i, fun _ _ z => z, ?_⟩
          walk_at "ss"
          exact ⟨stayOf zs fs - (i + 1), by omega, i + 1, rfl, rfl, by omega, rfl⟩
        · have c4 : i = stayOf zs fs := by omega
          have c3 : zs[i] ∈ fs := by
            rw [← eg, c4]
            exact stay_in (by omega)
          rw [decide_eq_true c3]
          refine iteF ?_
          subst c4
          exact key
      · rw [decide_eq_false c1]
        refine iteF ?_
        refine iteF ?_
        obtain rfl : i = stayOf zs fs := by omega
        exact key
end
end K42
namespace K42
open PySem PySem.Spec PyProof.Rows L2 TB LamX NdefX
open C8 (Cal pe_c Mak pe_mk Met pe_mt pe_mt0 pss_cut tCut pe_gc)
abbrev s__law_right : Stmt := top 21
theorem sc__law_right : FnScope ["_law_pot_here", "_law_latches_here", "_law_made", "_law_pairs", "_law_line", "_law_kept", "_law_turn", "_law_some_here", "_law_pile", "_law_latch", "_law_due_here", "_law_told", "_law_entry"] ["_law_pot_here", "_law_latches_here"] (defScope s__law_right) := ⟨rfl, rfl, rfl, by decide +kernel, rfl, by decide +kernel, by decide +kernel⟩
section
variable {P : Program} {w : World} {K : PySem.W.Frag} {mg : Str → Option Value} {base : Heap} {f C : Addr} {fd : FuncData}
def spRight (T0 : Addr) (q : Str) : Sp := fun vs H Q _ => ∃ (p a : Addr) (ws : List Str), vs = [.ref p, .ref a] ∧ H p = some (PotO p) ∧ H a = some (.lst (ws.map V.str)) ∧ ws.Nodup ∧ (∀ z ∈ ws, Nm z) ∧ 1 ≤ ws.length ∧ ws.length ≤ 30 ∧ NoT H ∧ TabS H T0 q ∧ ∀ H', Tg T0 q H H' → Q (.bl true) H'
theorem ok__law_right {T0 : Addr} (F : FnP K "_law_right" s__law_right f fd) (T : BltA mg) (c__law_order_of : Cal P w K mg base 6 "_law_order_of" (spOrderOf K C T0 lamQ) []) (c__law_some : Cal P w K mg base 2 "_law_some" (spSome K) [])
    (c__law_life : Cal P w K mg base 3 "_law_life" (spLifeD K) []) (c_ask_of : Cal P w K mg base 3 "ask_of" (spAsk C) []) (c__law_due : Cal P w K mg base 2 "_law_due" (spDue K) []) (m_Order_pairs : Met P w K mg base 1 C "pairs" (spPairs C) []) :
    FnG P w K mg base CX0 7 f fd ["_law_pot_here", "_law_latches_here"] (spRight T0 lamQ) := by
  refine fng_of F sc__law_right (fun vs H Q E h => ?_) (fun cdv A outer s H vs Q E g hr h => ⟨_, PSs.nox
(pss_cons (ps_asg (pe_c c__law_order_of hr (by decide) (by rfl) (pa_cons (pv 0) (pa_cons (pv 1) pa_nil))) (kTup K 3 (pg_tup rfl (pgs_cons (pg_name (i := 2) sc__law_right.nd rfl (.inl rfl)) (pgs_cons (pg_name (i := 3) sc__law_right.nd rfl (.inl rfl)) (pgs_cons (pg_name (i := 4) sc__law_right.nd rfl (.inl rfl)) pgs_nil))))))
  (pss_cons (ps_set (i := 5) sc__law_right.nd rfl (.inl rfl) (pe_mt0 m_Order_pairs hr (by decide) (pv 2)))
  (pss_cons (ps_for PassesOwn.never rfl (pi_range1 (by rfl) T.b_range (pa_cons pe_int pa_nil)) (pg_name (i := 6) sc__law_right.nd rfl (.inl rfl))
    (pss_cons (ps_set (i := 7) sc__law_right.nd rfl (.inl rfl) (pe_c c__law_some hr (by decide) (by rfl) (pa_cons (pv 0) (pa_cons (pv 1) pa_nil))))
      (pss_cons (ps_set (i := 8) sc__law_right.nd rfl (.inl rfl) (pe_callTy (call_tupK K) (by rfl) T.b_tuple (by decide +kernel) (pa_cons (pe_lc (own := [("_law_latch", 9)]) (tt := tYes) rfl sc__law_right.nd (kPI K (pi_list (pv 7))) (blkOk_by (N := ["_law_pot_here", "_law_latches_here", "_law_made", "_law_pairs", "_law_line", "_law_kept", "_law_turn", "_law_some_here", "_law_pile", "_law_latch", "_law_due_here", "_law_told", "_law_entry"]) (sc := defScope s__law_right) (by decide +kernel)) (fun _ _ _ _ _ => pg_name (i := 9) sc__law_right.nd rfl (Or.inl rfl)) (fun _ _ _ _ _ => pts_nil) (fun _ _ _ _ _ => (pe_tup (pa_cons (pv 9) (pa_cons (pe_c c__law_life hr (by decide) (by rfl) (pa_cons (pv 0) (pa_cons (pv 1) pa_nil))) pa_nil))))) pa_nil)))
      (pss_cons (ps_for PassesOwn.never rfl (kPI K (pi_list (pv 1))) (pg_name (i := 9) sc__law_right.nd rfl (.inl rfl))
        (pss_cons (ps_set (i := 10) sc__law_right.nd rfl (.inl rfl) (pe_c c__law_due hr (by decide) (by rfl) (pa_cons (pv 7) (pa_cons (pv 3) (pa_cons (pv 9) pa_nil)))))
          (pss_cons (ps_set (i := 11) sc__law_right.nd rfl (.inl rfl) (pe_c c_ask_of hr (by decide) (by rfl) (pa_cons (pv 2) (pa_cons (pv 8) (pa_cons (pv 9) pa_nil)))))
          (pss_cons (ps_if (pt_cmpR op_ne (pe_callB (call_reprD K hr.units g) (by rfl) T.b_repr (by decide +kernel) (pa_cons (pv 11) pa_nil)) (pe_callB (call_reprD K hr.units g) (by rfl) T.b_repr (by decide +kernel) (pa_cons (pv 10) pa_nil)) (nomark _))
            (pss_one (ps_ret pe_bl))
            pss_nil)
          (pss_cons (ps_expr (kBM K (pe_bm PySem.F.plainAttrs_list PySem.F.slot_list_append PySem.F.type_list_append mt_append (pe_ix (ix_tupK K) (pv 11) pe_int (fun _ _ => rfl)) (pa_cons pe_str pa_nil))))
          (pss_one (ps_if (pt_cmpR op_ne (pe_callB (call_reprD K hr.units g) (by rfl) T.b_repr (by decide +kernel) (pa_cons (pe_c c_ask_of hr (by decide) (by rfl) (pa_cons (pv 2) (pa_cons (pv 8) (pa_cons (pv 9) pa_nil)))) pa_nil)) (pe_callB (call_reprD K hr.units g) (by rfl) T.b_repr (by decide +kernel) (pa_cons (pv 10) pa_nil)) (nomark _))
            (pss_one (ps_ret pe_bl))
            pss_nil)))))))
      (pss_one (ps_if (PW.pt (pw_or (pt_cmpR (op_neDK K hr.units) (pe_lc (own := [("_law_entry", 12)]) (tt := tYes) rfl sc__law_right.nd (kPT K (pi_tup (pv 8))) (blkOk_by (N := ["_law_pot_here", "_law_latches_here", "_law_made", "_law_pairs", "_law_line", "_law_kept", "_law_turn", "_law_some_here", "_law_pile", "_law_latch", "_law_due_here", "_law_told", "_law_entry"]) (sc := defScope s__law_right) (by decide +kernel)) (fun _ _ _ _ _ => pg_name (i := 12) sc__law_right.nd rfl (Or.inl rfl)) (fun _ _ _ _ _ => pts_nil) (fun _ _ _ _ _ => (pe_ix (ix_tupK K) (pv 12) pe_int (fun _ _ => rfl)))) (pv 7) (nomark _)) (pw_or1 (pt_cmpR (op_neDK K hr.units) (pe_mt0 m_Order_pairs hr (by decide) (pv 2)) (pv 5) (nomark _)))))
        (pss_one (ps_ret pe_bl))
        pss_nil))))))
  (pss_one (ps_ret pe_bl)))))
, ?_⟩)
  · obtain ⟨p, a, ws, rfl, _⟩ := h
    rfl
  · obtain ⟨p, a, ws, rfl, hp, ha, nd, nm, h1, h30, nt, tb, q⟩ := h
    have haT : a ≠ T0 := by
      obtain ⟨ts, e, _⟩ := id tb
      exact ne_of ha e (fun z => nomatch z)
    walk_at "ss"
    refine ⟨p, a, ws, rfl, hp, sqL_of ha, haT, nd, nm, h1, h30, nt, tb, ?_⟩
    intro H1 t y pl ln rs prs ps line tg1 ht oy ok hpl hprs hln pm hmem hrk hpn npl nln nee
    refine st_gtup (sqT_of ht) rfl ?_
    have nprs : ∀ z ∈ prs, NmP z := fun z hz => ok.nmp z ((hmem z).mp hz)
    have ha1 := tg1.at tb ha (fun ps => by simp)
    have hp1 := tg1.at tb hp (fun ps => by simp [PotO])
    obtain ⟨dy, tl, tp, rs0, y1, y2, y3, y4⟩ := id oy
    walk_at "ss"
    refine ⟨y, dy, _, rfl, y1, rfl, ?_⟩
    refine ⟨y, ws, ps, rfl, oy, fun lk rk nlk hrk2 => ?_⟩
    have s2 : Same H1 (upd H1 lk (.lst rk)) := fun b o e => old_upd nlk e
    have n2 : NoT (upd H1 lk (.lst rk)) := (tg1.nt nt).lst
    have hlk : upd H1 lk (.lst rk) lk = some (.lst rk) := upd_same
    generalize upd H1 lk (.lst rk) = H2 at s2 n2 hlk ⊢
    walk_at "ss"
    refine ⟨3, rfl, by decide, by decide, ?_⟩
    refine for_walk wk_range (fun i σ H3 => ∃ y6 y7 y8 y9 y10 y11 y12 : Option V, σ = [some (.ref p), some (.ref a), some (.ref y), some (.ref pl), some (.ref ln), some (.ref lk), y6, y7, y8, y9, y10, y11, y12] ∧ Same H2 H3 ∧ NoT H3) ⟨none, none, none, none, none, none, none, rfl, fun _ _ e => e, n2⟩ (fun _ _ _ _ => trivial) ?_ ?_
    · rintro i v σ H3 _ ⟨y6, y7, y8, y9, y10, y11, y12, rfl, s3, n3⟩
      have s13 : Same H1 H3 := fun b o e => s3 _ _ (s2 _ _ e)
      walk_at "ss"
      refine ⟨p, a, ws, rfl, s13 _ _ hp1, sqL_of (s13 _ _ ha1), n3, by omega, fun l zs rest nl pm2 => ?_⟩
      have hlen := pm2.length_eq
      rw [List.length_append] at hlen
      have hzs : ∀ u ∈ zs, u ∈ ws := fun u hu => pm2.mem_iff.mp (List.mem_append_left _ hu)
      have nzs : ∀ u ∈ zs, Nm u := fun u hu => nm u (hzs u hu)
      have hzn : zs.length ≤ 30 := by omega
      have s4 : Same H2 (upd H3 l (.lst (zs.map V.str))) := fun b o e => old_upd nl (s3 _ _ e)
      have n4 : NoT (upd H3 l (.lst (zs.map V.str))) := n3.lst
      have hl4 : upd H3 l (.lst (zs.map V.str)) l = some (.lst (zs.map V.str)) := upd_same
      have nl2 : H2 l = none := by
        cases e : H2 l with
        | none => rfl
        | some o => rw [s3 _ _ e] at nl; exact nomatch nl
      generalize upd H3 l (.lst (zs.map V.str)) = H4 at s4 n4 hl4 ⊢
      walk_at "ss"
      refine ⟨l, rfl, ⟨_, sqL_of hl4⟩, ?_⟩
      refine lc_walk (wk_list (xs := zs.map V.str)) (fun D i acc H5 => Same H2 H5 ∧ NoT H5 ∧ H5 l = some (.lst (zs.map V.str)) ∧ H5 D = some (.lst acc) ∧ PileR H5 acc (zs.take i) ∧ H2 D = none ∧ l ≠ D)
        (fun D nD => ⟨fun b o e => old_upd nD (s4 _ _ e), n4.lst, old_upd nD hl4, upd_same, .nil, ?_, ne_of_none hl4 nD⟩) ?_ ?_ ?_
      · cases e : H2 D with
        | none => rfl
        | some o => rw [s4 _ _ e] at nD; exact nomatch nD
      · rintro D i acc H5 ⟨s5, n5, hl5, hD5, pr5, nD, nlD⟩
        exact sqL_of hl5
      · rintro D i v acc H5 _ hv ⟨s5, n5, hl5, hD5, pr5, nD, nlD⟩
        obtain ⟨z, hz2, rfl⟩ : ∃ z, zs[i]? = some z ∧ v = .str z := by
          have h3 := (List.getElem?_eq_some_iff.mp hv).1
          rw [List.length_map] at h3
          rw [List.getElem?_map, List.getElem?_eq_getElem h3] at hv
          exact ⟨_, List.getElem?_eq_getElem h3, (Option.some.inj hv).symm⟩
        have hacc : acc.length ≤ 30 := by
          rw [pr5.len, List.length_take]
          omega
        walk_at "ss"
        refine ⟨rfl, ?_⟩
        walk_at "ss"
        refine iteT ?_
        walk_at "ss"
        refine ⟨p, a, ws, rfl, s5 _ _ (s2 _ _ hp1), sqL_of (s5 _ _ (s2 _ _ ha1)), by omega, n5, fun x => ?_⟩
        walk_at "ss"
        refine ⟨(by show 2 ≤ sizeLine; decide), fun u nu => ?_⟩
        have nDu : D ≠ u := ne_of_none hD5 nu
        refine ⟨_, old_upd nu hD5, small1000 (by omega), acc ++ [.ref u], fun b o e => oth_upd (ne_of_none e nD) (old_upd nu (s5 _ _ e)), n5.tup.lst, oth_upd nlD (old_upd nu hl5), upd_same, ?_, nD, nlD⟩
        rw [take_next hz2]
        exact PileR.snoc (pr5.keep fun b xs e => oth_upd (ne_of e hD5 (fun z => nomatch z)) (old_upd nu e)) (oth_upd nDu.symm upd_same)
      · rintro D acc H5 _ ⟨s5, n5, hl5, hD5, pr5, nD, nlD⟩
        rw [List.length_map, List.take_length] at pr5
        have hacc : acc.length = zs.length := pr5.len
        walk_at "ss"
        refine ⟨D, acc, rfl, Or.inl ⟨sqL_of hD5, fun t9 nt9 => ?_⟩⟩
        have s6 : Same H2 (upd H5 t9 (.tup acc)) := fun b o e => old_upd nt9 (s5 _ _ e)
        have n6 : NoT (upd H5 t9 (.tup acc)) := n5.tup
        have hl6 := old_upd (o := .tup acc) nt9 hl5
        have pr6 : PileR (upd H5 t9 (.tup acc)) acc zs := pr5.keep fun b xs e => old_upd nt9 e
        have ht6 : upd H5 t9 (.tup acc) t9 = some (.tup acc) := upd_same
        generalize upd H5 t9 (.tup acc) = H6 at s6 n6 hl6 pr6 ht6 ⊢
        clear s5 n5 hl5 hD5 pr5 nt9
        have s16 : Same H1 H6 := fun b o e => s6 _ _ (s2 _ _ e)
        walk_at "ss"
        refine ⟨a, rfl, ⟨_, sqL_of (s16 _ _ ha1)⟩, ?_⟩
        refine for_walk (wk_list (xs := ws.map V.str)) (fun j σ H7 => ∃ y9 y10 y11 : Option V, σ = [some (.ref p), some (.ref a), some (.ref y), some (.ref pl), some (.ref ln), some (.ref lk), some v, some (.ref l), some (.ref t9), y9, y10, y11, y12] ∧ Same H6 H7 ∧ NoT H7) ⟨_, _, _, rfl, fun _ _ e => e, n6⟩ ?_ ?_ ?_
        · rintro j σ H7 ⟨y9, y10, y11, rfl, s7, n7⟩
          exact sqL_of (s7 _ _ (s16 _ _ ha1))
        · rintro j v2 σ H7 hv2 ⟨y9, y10, y11, rfl, s7, n7⟩
          obtain ⟨z, hz, rfl⟩ := List.mem_map.mp (List.mem_of_getElem? hv2)
          have s17 : Same H1 H7 := fun b o e => s7 _ _ (s16 _ _ e)
          walk_at "ss"
          refine ⟨l, pl, z, zs, rs, prs, rfl, sqL_of (s7 _ _ hl6), hzn, s17 _ _ hpl, hprs.keep (fun b xs e => s17 _ _ e), nprs, nm z hz, hpn, n7, ?_⟩
          intro fs H8 td ld rsd hfs s8 n8 htd hld hpd nld
          have s18 : Same H1 H8 := fun b o e => s8 _ _ (s17 _ _ e)
          walk_at "ss"
          refine ⟨y, t9, acc, zs, ws, ps, z, rfl, s8 _ _ (s7 _ _ ht6), pr6.keep (fun b xs e => s8 _ _ (s7 _ _ e)), hzn, oy.same s18, ok, hzs, hz, n8, ?_⟩
          intro fs2 H9 ta la rsa hfs2 s9 n9 hta hla hpa nla
          have ste : ∀ gs : List Str, (∀ u, u ∈ gs ↔ Rch ps z u) → askHow zs gs z = askHow zs fs z ∧ askN zs gs z = askN zs fs z ∧ askP zs gs z = askP zs fs z := by
            intro gs hgs
            have e : stayOf zs gs = stayOf zs fs := stay_congr (fun u _ => by rw [hgs, hfs, rch_iff hmem])
            unfold askHow askN askP
            rw [e]
            exact ⟨rfl, rfl, rfl⟩
          obtain ⟨q1, q2, q3⟩ := ste fs2 hfs2
          rw [q1, q2] at hta
          rw [q3] at hpa
          have nP : ∀ x ∈ askP zs fs z, NmP x := by
            intro x hx
            unfold askP at hx
            split at hx
            · exact nomatch hx
            · obtain ⟨u, hu, rfl⟩ := List.mem_map.mp hx
              exact ⟨nzs u (List.mem_of_mem_take hu), nm z hz⟩
          have nPl : (askP zs fs z).length ≤ 30 := by
            unfold askP
            split
            · exact Nat.zero_le _
            · rw [List.length_map, List.length_take]
              omega
          have nN : askN zs fs z ≤ 30 := by
            have := stay_le zs fs
            unfold askN
            split <;> omega
          have nld : ld ≠ la := ne_of_none hld nla
          walk_at "ss"
          refine st_reprAsk hta hla hpa (askHow_nm _ _ _) nP (by omega) (by omega) ?_
          walk_at "ss"
          refine st_reprAsk (s9 _ _ htd) (s9 _ _ hld) (hpd.keep fun b xs e => s9 _ _ e) (askHow_nm _ _ _) nP (by omega) (by omega) ?_
          walk_at "ss"
          rw [decide_eq_true rfl]
          refine iteF ?_
          walk_at "ss"
          refine st_ixT (sqT_of hta) rfl ?_
          refine ⟨Or.inl ⟨rfl, _, sqL_of hla⟩, ?_⟩
          walk_at "ss"
          refine st_append hla (by rw [hpa.len]; exact small1000 (by omega)) ?_
          have kt : ∀ c o, H9 c = some o → (∀ xs, o ≠ .lst xs) → upd H9 la (.lst (rsa ++ [.str "other"])) c = some o := by
            intro c o e n
            refine oth_upd (fun z => ?_) e
            rw [z, hla] at e
            exact n _ (Option.some.inj e).symm
          have s10 : Same H8 (upd H9 la (.lst (rsa ++ [.str "other"]))) := fun b o e => oth_upd (ne_of_none e nla) (s9 _ _ e)
          have n10 : NoT (upd H9 la (.lst (rsa ++ [.str "other"]))) := n9.lst
          generalize upd H9 la (.lst (rsa ++ [.str "other"])) = H10 at s10 n10 ⊢
          have s110 : Same H1 H10 := fun b o e => s10 _ _ (s18 _ _ e)
          walk_at "ss"
          refine ⟨y, t9, acc, zs, ws, ps, z, rfl, s10 _ _ (s8 _ _ (s7 _ _ ht6)), pr6.keep (fun b xs e => s10 _ _ (s8 _ _ (s7 _ _ e))), hzn, oy.same s110, ok, hzs, hz, n10, ?_⟩
          intro fs3 H11 tb3 lb3 rsb hfs3 s11 n11 htb hlb hpb nlb
          obtain ⟨q1, q2, q3⟩ := ste fs3 hfs3
          rw [q1, q2] at htb
          rw [q3] at hpb
          walk_at "ss"
          refine st_reprAsk htb hlb hpb (askHow_nm _ _ _) nP (by omega) (by omega) ?_
          walk_at "ss"
          refine st_reprAsk (s11 _ _ (s10 _ _ htd)) (s11 _ _ (s10 _ _ hld)) (hpd.keep fun b xs e => s11 _ _ (s10 _ _ e)) (askHow_nm _ _ _) nP (by omega) (by omega) ?_
          walk_at "ss"
          rw [decide_eq_true rfl]
          refine iteF ?_
          walk_at "ss"
          exact ⟨_, _, _, rfl, fun b o e => s11 _ _ (s10 _ _ (s8 _ _ (s7 _ _ e))), n11⟩
        · rintro σ H7 ⟨y9, y10, y11, rfl, s7, n7⟩
          have s27 : Same H2 H7 := fun b o e => s7 _ _ (s6 _ _ e)
          have s17 : Same H1 H7 := fun b o e => s27 _ _ (s2 _ _ e)
          have pr7 : PileR H7 acc zs := pr6.keep fun b xs e => s7 _ _ e
          walk_at "ss"
          refine ⟨t9, rfl, ⟨acc, sqT_of (s7 _ _ ht6)⟩, ?_⟩
          have hl : acc.length < sizeLine := by
            rw [hacc]
            exact small1000 (by omega)
          refine lc_pure (fun v => some (lockOf H7 v)) wk_tup (fun D2 ac nD2 => sqT_of (old_upd nD2 (s7 _ _ ht6))) ?_ ?_
          · intro D2 j2 v3 ac nD2 hv3 hac
            obtain ⟨u, z, x, rfl, hu⟩ := pr7.mem v3 (List.mem_of_getElem? hv3)
            walk_at "ss"
            refine ⟨rfl, ?_⟩
            walk_at "ss"
            refine iteT ?_
            walk_at "ss"
            refine st_ixT (sqT_of (old_upd nD2 hu)) (v := .str z) rfl ?_
            exact pur_yes hl hv3 hac (by rw [lockOf_eq hu])
          · intro D2 nD2
            rw [fm_some, pr7.locks]
            have s8 : Same H2 (upd H7 D2 (.lst (zs.map V.str))) := fun b o e => old_upd nD2 (s27 _ _ e)
            have s18 : Same H1 (upd H7 D2 (.lst (zs.map V.str))) := fun b o e => s8 _ _ (s2 _ _ e)
            walk_at "ss"
            refine st_neS nzs (sqL_of upd_same) (sqL_of (old_upd nD2 (s7 _ _ hl6))) ?_
            walk_at "ss"
            refine iteF ?_
            walk_at "ss"
            refine ⟨y, dy, _, rfl, s18 _ _ y1, rfl, ?_⟩
            refine ⟨y, ws, ps, rfl, oy.same s18, fun lp rp nlp hrp => ?_⟩
            walk_at "ss"
            refine st_nePr ok.nmp upd_same (hrp.keep fun b xs e => old_upd nlp e) (old_upd nlp (s8 _ _ hlk)) (hrk2.keep fun b xs e => old_upd nlp (s18 _ _ e)) ?_
            walk_at "ss"
            refine iteF ?_
            walk_at "ss"
            exact ⟨_, _, _, _, _, _, _, rfl, fun b o e => old_upd nlp (s8 _ _ e), n7.lst.lst⟩
    · rintro σ H3 ⟨y6, y7, y8, y9, y10, y11, y12, rfl, s3, n3⟩
      walk_at "ss"
      exact q H3 (tg1.trans (Tg.of (fun b o e => s3 _ _ (s2 _ _ e)) tg1.tab n3))
end
end K42
namespace K42
open PySem PySem.Spec PyProof.Rows L2 TB LamX NdefX
open C8 (Cal pe_c Mak pe_mk Met pe_mt pe_mt0 pss_cut tCut pe_gc)
abbrev s_law : Stmt := top 22
theorem sc_law : FnScope ["_law_script", "_law_k", "_law_pot_here"] ["_law_script"] (defScope s_law) := ⟨rfl, rfl, rfl, by decide +kernel, rfl, by decide +kernel, by decide +kernel⟩
section
variable {P : Program} {w : World} {K : PySem.W.Frag} {mg : Str → Option Value} {base : Heap} {f C : Addr} {fd : FuncData}
def spLaw (K : PySem.W.Frag) (T0 : Addr) (q : Str) : Sp := fun vs H Q _ => ∃ (a : Addr) (ns : List Int), vs = [.ref a] ∧ SqL K H a (ns.map V.int) ∧ a ≠ T0 ∧ ns.length ≤ 63 ∧ NoT H ∧ TabS H T0 q ∧ ∀ H', Q (.bl true) H'
theorem ok_law {T0 : Addr} (F : FnP K "law" s_law f fd) (T : BltA mg) (c__law_pot : Cal P w K mg base 1 "_law_pot" (spPot K) []) (c__law_latches : Cal P w K mg base 3 "_law_latches" spLatches []) (c__law_right : CalG P w K mg base 7 "_law_right" (spRight T0 lamQ)) :
    FnG P w K mg base CX0 8 f fd ["_law_script"] (spLaw K T0 lamQ) := by
  refine fng_of F sc_law (fun vs H Q E h => ?_) (fun cdv A outer s H vs Q E g hr h => ⟨_, PSs.nox
(pss_cons (ps_for PassesOwn.never rfl (pi_range1 (by rfl) T.b_range (pa_cons (pe_callB (call_max2 rfl) (by rfl) T.b_max (by decide +kernel) (pa_cons pe_int (pa_cons (pe_callB (call_min2 rfl) (by rfl) T.b_min (by decide +kernel) (pa_cons pe_int (pa_cons (pe_callB (call_lenK K) (by rfl) T.b_len PySem.boot_len (pa_cons (pv 0) pa_nil)) pa_nil))) pa_nil))) pa_nil)) (pg_name (i := 1) sc_law.nd rfl (.inl rfl))
    (pss_cons (ps_set (i := 2) sc_law.nd rfl (.inl rfl) (pe_c c__law_pot hr (by decide) (by rfl) (pa_cons (pv 0) (pa_cons (pv 1) pa_nil))))
      (pss_one (ps_if (pt_not (pt_val (pe_cG c__law_right g hr (by decide) (by rfl) (pa_cons (pv 2) (pa_cons (pe_c c__law_latches hr (by decide) (by rfl) (pa_cons (pv 2) pa_nil)) pa_nil)))))
        (pss_one (ps_ret pe_bl))
        pss_nil))))
  (pss_one (ps_ret pe_bl)))
, ?_⟩)
  · obtain ⟨a, ns, rfl, _⟩ := h
    rfl
  · obtain ⟨a, ns, rfl, ha, haT, hn, nt, tb, q⟩ := h
    walk_at "ss"
    refine st_len ha ?_
    walk_at "ss"
    refine ⟨_, _, rfl, ?_⟩
    walk_at "ss"
    refine ⟨_, _, rfl, ?_⟩
    walk_at "ss"
    obtain ⟨m, em, hm⟩ : ∃ m : Nat, (if (if ((ns.map V.int).length : Int) < 6 then ((ns.map V.int).length : Int) else 6) > 1 then (if ((ns.map V.int).length : Int) < 6 then ((ns.map V.int).length : Int) else 6) else 1) = (m : Int) ∧ m ≤ 6 := by
      rw [List.length_map]
      generalize ns.length = n
      by_cases h1 : (n : Int) < 6
      · rw [if_pos h1]
        by_cases h2 : (n : Int) > 1
        · rw [if_pos h2]
          exact ⟨n, rfl, by omega⟩
        · rw [if_neg h2]
          exact ⟨1, rfl, by decide⟩
      · rw [if_neg h1]
        exact ⟨6, rfl, by decide⟩
    rw [em]
    refine ⟨_, rfl, by omega, by omega, ?_⟩
    rw [Int.toNat_natCast]
    refine for_walk wk_range (fun i σ H2 => ∃ y1 y2 : Option V, σ = [some (.ref a), y1, y2] ∧ Tg T0 lamQ H H2) ⟨none, none, rfl, Tg.refl tb⟩ (fun _ _ _ _ => trivial) ?_ ?_
    · rintro i x σ H2 hx ⟨y1, y2, rfl, tg2⟩
      obtain ⟨hi, ex⟩ : i < m ∧ x = .int (i : Int) := by
        have h1 := (List.getElem?_eq_some_iff.mp hx).1
        rw [List.length_map, List.length_range] at h1
        rw [List.getElem?_map, List.getElem?_range h1] at hx
        exact ⟨h1, (Option.some.inj hx).symm⟩
      subst ex
      walk_at "ss"
      refine ⟨a, ns, i, rfl, tg2.sqL haT ha, by omega, by omega, tg2.nt nt, fun p np => ?_⟩
      have hp0 : upd H2 p (PotO p) p = some (PotO p) := upd_same
      have tg3 : Tg T0 lamQ H (upd H2 p (PotO p)) := tg2.new np (show noT (PotO p) from trivial)
      generalize upd H2 p (PotO p) = H3 at hp0 tg3 ⊢
      walk_at "ss"
      refine ⟨p, rfl, hp0, tg3.nt nt, fun l ws nl nd nm h1 h7 => ?_⟩
      have tg4 := tg3.newL (xs := ws.map V.str) nl
      walk_at "ss"
      refine ⟨p, l, ws, rfl, old_upd nl hp0, upd_same, nd, nm, h1, by omega, tg4.nt nt, tg4.tab, fun H5 tg5 => ?_⟩
      walk_at "ss"
      refine iteF ?_
      walk_at "ss"
      exact ⟨_, _, rfl, tg4.trans tg5⟩
    · rintro σ H2 ⟨y1, y2, rfl, tg2⟩
      walk_at "ss"
      exact q H2
end
end K42
namespace K42
open PySem PySem.Spec PyProof.Rows L2 TB LamX NdefX
open C8 (Cal pe_c Mak pe_mk Met pe_mt pe_mt0 pss_cut tCut pe_gc)
def d_held_locks : He.DefD := ⟨("held_locks", none), "held_locks", "held_locks", defArgs s_held_locks, defBody s_held_locks, defScope s_held_locks, [], []⟩
def d_ask_of : He.DefD := ⟨("ask_of", none), "ask_of", "ask_of", defArgs s_ask_of, defBody s_ask_of, defScope s_ask_of, [], []⟩
def d_Life___init__ : He.DefD := ⟨("Life", some "__init__"), "__init__", "Life.__init__", defArgs s_Life___init__, defBody s_Life___init__, defScope s_Life___init__, [], [("drafts", .adr (kwAt ("Life", some "__init__") "drafts"))]⟩
def d_Order___init__ : He.DefD := ⟨("Order", some "__init__"), "__init__", "Order.__init__", defArgs s_Order___init__, defBody s_Order___init__, defScope s_Order___init__, [.adr (He.dflAt ("Order", some "__init__") 0)], []⟩
def d_Order_want : He.DefD := ⟨("Order", some "want"), "want", "Order.want", defArgs s_Order_want, defBody s_Order_want, defScope s_Order_want, [], []⟩
def d_Order_locks : He.DefD := ⟨("Order", some "locks"), "locks", "Order.locks", defArgs s_Order_locks, defBody s_Order_locks, defScope s_Order_locks, [], []⟩
def d_Order_pairs : He.DefD := ⟨("Order", some "pairs"), "pairs", "Order.pairs", defArgs s_Order_pairs, defBody s_Order_pairs, defScope s_Order_pairs, [], []⟩
def d_Order_has : He.DefD := ⟨("Order", some "has"), "has", "Order.has", defArgs s_Order_has, defBody s_Order_has, defScope s_Order_has, [], []⟩
def d_Order_after : He.DefD := ⟨("Order", some "after"), "after", "Order.after", defArgs s_Order_after, defBody s_Order_after, defScope s_Order_after, [], []⟩
def d_Order_behind : He.DefD := ⟨("Order", some "behind"), "behind", "Order.behind", defArgs s_Order_behind, defBody s_Order_behind, defScope s_Order_behind, [], []⟩
def d_Order_leads : He.DefD := ⟨("Order", some "leads"), "leads", "Order.leads", defArgs s_Order_leads, defBody s_Order_leads, defScope s_Order_leads, [], []⟩
def d_Order_with_pair : He.DefD := ⟨("Order", some "with_pair"), "with_pair", "Order.with_pair", defArgs s_Order_with_pair, defBody s_Order_with_pair, defScope s_Order_with_pair, [], []⟩
def d_Order_added : He.DefD := ⟨("Order", some "added"), "added", "Order.added", defArgs s_Order_added, defBody s_Order_added, defScope s_Order_added, [], []⟩
def d__law_pot : He.DefD := ⟨("_law_pot", none), "_law_pot", "_law_pot", defArgs s__law_pot, defBody s__law_pot, defScope s__law_pot, [], []⟩
def d__law_draw : He.DefD := ⟨("_law_draw", none), "_law_draw", "_law_draw", defArgs s__law_draw, defBody s__law_draw, defScope s__law_draw, [], []⟩
def d__law_name : He.DefD := ⟨("_law_name", none), "_law_name", "_law_name", defArgs s__law_name, defBody s__law_name, defScope s__law_name, [], []⟩
def d__law_number : He.DefD := ⟨("_law_number", none), "_law_number", "_law_number", defArgs s__law_number, defBody s__law_number, defScope s__law_number, [], []⟩
def d__law_latches : He.DefD := ⟨("_law_latches", none), "_law_latches", "_law_latches", defArgs s__law_latches, defBody s__law_latches, defScope s__law_latches, [], []⟩
def d__law_order_of : He.DefD := ⟨("_law_order_of", none), "_law_order_of", "_law_order_of", defArgs s__law_order_of, defBody s__law_order_of, defScope s__law_order_of, [], []⟩
def d__law_all_behind : He.DefD := ⟨("_law_all_behind", none), "_law_all_behind", "_law_all_behind", defArgs s__law_all_behind, defBody s__law_all_behind, defScope s__law_all_behind, [], []⟩
def d__law_some : He.DefD := ⟨("_law_some", none), "_law_some", "_law_some", defArgs s__law_some, defBody s__law_some, defScope s__law_some, [], []⟩
def d__law_life : He.DefD := ⟨("_law_life", none), "_law_life", "_law_life", defArgs s__law_life, defBody s__law_life, defScope s__law_life, [], []⟩
def d__law_due : He.DefD := ⟨("_law_due", none), "_law_due", "_law_due", defArgs s__law_due, defBody s__law_due, defScope s__law_due, [], []⟩
def d__law_right : He.DefD := ⟨("_law_right", none), "_law_right", "_law_right", defArgs s__law_right, defBody s__law_right, defScope s__law_right, [], []⟩
def d_law : He.DefD := ⟨("law", none), "law", "law", defArgs s_law, defBody s_law, defScope s_law, [], []⟩
def fn : List He.DefD := [d_held_locks, d_ask_of, d_Life___init__, d_Order___init__, d_Order_want, d_Order_locks, d_Order_pairs, d_Order_has, d_Order_after, d_Order_behind, d_Order_leads, d_Order_with_pair, d_Order_added, d__law_pot, d__law_draw, d__law_name, d__law_number, d__law_latches, d__law_order_of, d__law_all_behind, d__law_some, d__law_life, d__law_due, d__law_right, d_law]
def fa : List He.Fa := [.glo "held_locks", .glo "ask_of", .glo "_law_pot", .glo "_law_draw", .glo "_law_name", .glo "_law_number", .glo "_law_latches", .glo "_law_order_of", .glo "_law_all_behind", .glo "_law_some", .glo "_law_life", .glo "_law_due", .glo "_law_right", .glo "law", .free "len", .free "max", .free "min", .free "abs", .free "divmod", .free "range", .free "enumerate", .free "int", .free "list", .free "repr", .free "isinstance", .free "str", .free "tuple", .free "sorted", .free "all", .free "any", .free "zip", .free "dict", .free "sum", .free "bool", .glo "Order", .cls "Order", .noat "Order" "own_locks", .noat "Order" "own_pairs", .mkr "Order", .meth "Order" "want", .meth "Order" "locks", .meth "Order" "pairs", .meth "Order" "has", .meth "Order" "after", .meth "Order" "behind", .meth "Order" "leads", .meth "Order" "with_pair", .meth "Order" "added", .glo "Life", .cls "Life", .noat "Life" "place", .noat "Life" "hand", .noat "Life" "drafts", .noat "Life" "called", .mkr "Life"]
def tf : List He.Defn := [("Order", some "with_pair")]
def exB (K : PySem.W.Frag) : Bool := nilB (He.dflAt ("Order", some "__init__") 0) K
abbrev R : PySem.W.OpenRow := PySem.W.OpenLaw.row PySem.Challenge.rw_turnedback_k42_what_an_ask_comes_to
abbrev hk : PySem.W.Hook := He.hookX 6 fa fn [] tf exB
def ob (s : PySem.W.SharedT) : He.AlX := He.obsX 6 fa fn [] tf exB (HandSHeadRun.getT s)
theorem ob_eq (s : PySem.W.SharedT) : ob s = hk.obs s.abs := He.obsX_eq (HandSHeadRun.getT_eq s)
def loose : List Str := ["NoSuch", "Ring", "held_locks", "ask_of", "Life", "Order", "_law_pot", "_law_draw", "_law_name", "_law_number", "_law_latches", "_law_order_of", "_law_all_behind", "_law_some", "_law_life", "_law_due", "_law_right"]
theorem run (w : World) : HandSHeadRun.RunEq R (PySem.W.view R.prog [22]) hk ob 6000 loose w := by
  intro os
  kernel_rfl
/-- the code object and its table -/
abbrev cT0 (K : PySem.W.Frag) : Addr × Addr := He.cT K ("Order", some "with_pair")
theorem facts {P : Program} {w : World} {K : PySem.W.Frag} {h : Heap} {mg : Str → Option Value} {f : Addr} (X : K.In h) (G : h.Ns mainGlobals mg) (hfa : mg ("law" : Str) = some (.ref f)) (c : He.SaysX fa fn [] tf exB w h K) :
    ∃ fd : FuncData, (∀ (s : Shared) (v : Value), BindsTo s fd ⟨[v], []⟩ [("_law_script", v)]) ∧ ∀ base : Heap, K.In base → base.Ns mainGlobals mg → TabB base mg (cT0 K).1 (cT0 K).2 → FnG P w K mg base CX0 8 f fd ["_law_script"] (spLaw K (cT0 K).2 lamQ) := by
  obtain ⟨fd_held_locks, F_held_locks⟩ := c.t.d.def_ 0 (d := d_held_locks) rfl
  obtain ⟨fd_ask_of, F_ask_of⟩ := c.t.d.def_ 1 (d := d_ask_of) rfl
  obtain ⟨fd_Life___init__, F_Life___init__⟩ := c.t.d.def_ 2 (d := d_Life___init__) rfl
  obtain ⟨fd_Order___init__, F_Order___init__⟩ := c.t.d.def_ 3 (d := d_Order___init__) rfl
  obtain ⟨fd_Order_want, F_Order_want⟩ := c.t.d.def_ 4 (d := d_Order_want) rfl
  obtain ⟨fd_Order_locks, F_Order_locks⟩ := c.t.d.def_ 5 (d := d_Order_locks) rfl
  obtain ⟨fd_Order_pairs, F_Order_pairs⟩ := c.t.d.def_ 6 (d := d_Order_pairs) rfl
  obtain ⟨fd_Order_has, F_Order_has⟩ := c.t.d.def_ 7 (d := d_Order_has) rfl
  obtain ⟨fd_Order_after, F_Order_after⟩ := c.t.d.def_ 8 (d := d_Order_after) rfl
  obtain ⟨fd_Order_behind, F_Order_behind⟩ := c.t.d.def_ 9 (d := d_Order_behind) rfl
  obtain ⟨fd_Order_leads, F_Order_leads⟩ := c.t.d.def_ 10 (d := d_Order_leads) rfl
  obtain ⟨fd_Order_with_pair, F_Order_with_pair⟩ := c.t.d.def_ 11 (d := d_Order_with_pair) rfl
  obtain ⟨fd_Order_added, F_Order_added⟩ := c.t.d.def_ 12 (d := d_Order_added) rfl
  obtain ⟨fd__law_pot, F__law_pot⟩ := c.t.d.def_ 13 (d := d__law_pot) rfl
  obtain ⟨fd__law_draw, F__law_draw⟩ := c.t.d.def_ 14 (d := d__law_draw) rfl
  obtain ⟨fd__law_name, F__law_name⟩ := c.t.d.def_ 15 (d := d__law_name) rfl
  obtain ⟨fd__law_number, F__law_number⟩ := c.t.d.def_ 16 (d := d__law_number) rfl
  obtain ⟨fd__law_latches, F__law_latches⟩ := c.t.d.def_ 17 (d := d__law_latches) rfl
  obtain ⟨fd__law_order_of, F__law_order_of⟩ := c.t.d.def_ 18 (d := d__law_order_of) rfl
  obtain ⟨fd__law_all_behind, F__law_all_behind⟩ := c.t.d.def_ 19 (d := d__law_all_behind) rfl
  obtain ⟨fd__law_some, F__law_some⟩ := c.t.d.def_ 20 (d := d__law_some) rfl
  obtain ⟨fd__law_life, F__law_life⟩ := c.t.d.def_ 21 (d := d__law_life) rfl
  obtain ⟨fd__law_due, F__law_due⟩ := c.t.d.def_ 22 (d := d__law_due) rfl
  obtain ⟨fd__law_right, F__law_right⟩ := c.t.d.def_ 23 (d := d__law_right) rfl
  obtain ⟨fd_law, F_law⟩ := c.t.d.def_ 24 (d := d_law) rfl
  have e := hfa.symm.trans (He.glo_ok X G (c.t.d.fact 13 (f := .glo "law") rfl))
  cases e
  have T : BltA mg := { b_len := He.free_ok X G (c.t.d.fact 14 (f := .free "len") rfl), b_max := He.free_ok X G (c.t.d.fact 15 (f := .free "max") rfl), b_min := He.free_ok X G (c.t.d.fact 16 (f := .free "min") rfl), b_abs := He.free_ok X G (c.t.d.fact 17 (f := .free "abs") rfl), b_divmod := He.free_ok X G (c.t.d.fact 18 (f := .free "divmod") rfl), b_range := He.free_ok X G (c.t.d.fact 19 (f := .free "range") rfl), b_enumerate := He.free_ok X G (c.t.d.fact 20 (f := .free "enumerate") rfl), b_int := He.free_ok X G (c.t.d.fact 21 (f := .free "int") rfl), b_list := He.free_ok X G (c.t.d.fact 22 (f := .free "list") rfl), b_repr := He.free_ok X G (c.t.d.fact 23 (f := .free "repr") rfl), b_isinstance := He.free_ok X G (c.t.d.fact 24 (f := .free "isinstance") rfl), b_str := He.free_ok X G (c.t.d.fact 25 (f := .free "str") rfl), b_tuple := He.free_ok X G (c.t.d.fact 26 (f := .free "tuple") rfl), b_sorted := He.free_ok X G (c.t.d.fact 27 (f := .free "sorted") rfl), b_all := He.free_ok X G (c.t.d.fact 28 (f := .free "all") rfl), b_any := He.free_ok X G (c.t.d.fact 29 (f := .free "any") rfl), b_zip := He.free_ok X G (c.t.d.fact 30 (f := .free "zip") rfl), b_dict := He.free_ok X G (c.t.d.fact 31 (f := .free "dict") rfl), b_sum := He.free_ok X G (c.t.d.fact 32 (f := .free "sum") rfl), b_bool := He.free_ok X G (c.t.d.fact 33 (f := .free "bool") rfl) }
  have b_held_locks : Binds K fd_held_locks ["pile"] [] := F_held_locks.bindsN fun _ _ _ _ _ _ us hl => match us, hl with | [_], _ => rfl
  have b_ask_of : Binds K fd_ask_of ["order", "pile", "lock"] [] := F_ask_of.bindsN fun _ _ _ _ _ _ us hl => match us, hl with | [_, _, _], _ => rfl
  have b_Order_want : Binds K fd_Order_want ["self", "lock"] [] := F_Order_want.bindsN fun _ _ _ _ _ _ us hl => match us, hl with | [_, _], _ => rfl
  have b_Order_locks : Binds K fd_Order_locks ["self"] [] := F_Order_locks.bindsN fun _ _ _ _ _ _ us hl => match us, hl with | [_], _ => rfl
  have b_Order_pairs : Binds K fd_Order_pairs ["self"] [] := F_Order_pairs.bindsN fun _ _ _ _ _ _ us hl => match us, hl with | [_], _ => rfl
  have b_Order_has : Binds K fd_Order_has ["self", "one", "other"] [] := F_Order_has.bindsN fun _ _ _ _ _ _ us hl => match us, hl with | [_, _, _], _ => rfl
  have b_Order_after : Binds K fd_Order_after ["self", "lock"] [] := F_Order_after.bindsN fun _ _ _ _ _ _ us hl => match us, hl with | [_, _], _ => rfl
  have b_Order_behind : Binds K fd_Order_behind ["self", "one"] [] := F_Order_behind.bindsN fun _ _ _ _ _ _ us hl => match us, hl with | [_, _], _ => rfl
  have b_Order_leads : Binds K fd_Order_leads ["self", "one", "other"] [] := F_Order_leads.bindsN fun _ _ _ _ _ _ us hl => match us, hl with | [_, _, _], _ => rfl
  have b_Order_with_pair : Binds K fd_Order_with_pair ["self", "one", "other"] [] := F_Order_with_pair.bindsN fun _ _ _ _ _ _ us hl => match us, hl with | [_, _, _], _ => rfl
  have b_Order_added : Binds K fd_Order_added ["self", "one", "other"] [] := F_Order_added.bindsN fun _ _ _ _ _ _ us hl => match us, hl with | [_, _, _], _ => rfl
  have b__law_pot : Binds K fd__law_pot ["_law_script", "_law_k"] [] := F__law_pot.bindsN fun _ _ _ _ _ _ us hl => match us, hl with | [_, _], _ => rfl
  have b__law_draw : Binds K fd__law_draw ["_law_pot_here", "_law_many"] [] := F__law_draw.bindsN fun _ _ _ _ _ _ us hl => match us, hl with | [_, _], _ => rfl
  have b__law_name : Binds K fd__law_name ["_law_pot_here", "_law_taken"] [] := F__law_name.bindsN fun _ _ _ _ _ _ us hl => match us, hl with | [_, _], _ => rfl
  have b__law_number : Binds K fd__law_number ["_law_pot_here"] [] := F__law_number.bindsN fun _ _ _ _ _ _ us hl => match us, hl with | [_], _ => rfl
  have b__law_latches : Binds K fd__law_latches ["_law_pot_here"] [] := F__law_latches.bindsN fun _ _ _ _ _ _ us hl => match us, hl with | [_], _ => rfl
  have b__law_order_of : Binds K fd__law_order_of ["_law_pot_here", "_law_latches_here"] [] := F__law_order_of.bindsN fun _ _ _ _ _ _ us hl => match us, hl with | [_, _], _ => rfl
  have b__law_all_behind : Binds K fd__law_all_behind ["_law_pairs", "_law_latch"] [] := F__law_all_behind.bindsN fun _ _ _ _ _ _ us hl => match us, hl with | [_, _], _ => rfl
  have b__law_some : Binds K fd__law_some ["_law_pot_here", "_law_latches_here"] [] := F__law_some.bindsN fun _ _ _ _ _ _ us hl => match us, hl with | [_, _], _ => rfl
  have b__law_life : Binds K fd__law_life ["_law_pot_here", "_law_latches_here"] [] := F__law_life.bindsN fun _ _ _ _ _ _ us hl => match us, hl with | [_, _], _ => rfl
  have b__law_due : Binds K fd__law_due ["_law_some_here", "_law_pairs", "_law_latch"] [] := F__law_due.bindsN fun _ _ _ _ _ _ us hl => match us, hl with | [_, _, _], _ => rfl
  have b__law_right : Binds K fd__law_right ["_law_pot_here", "_law_latches_here"] [] := F__law_right.bindsN fun _ _ _ _ _ _ us hl => match us, hl with | [_, _], _ => rfl
  have b_law := FunD.bindsA (ps := ["_law_script"]) F_law fun _ _ _ _ _ _ us hl => match us, hl with | [_], _ => rfl
  obtain ⟨ds_o, vs_o, b_Order___init__⟩ := F_Order___init__.binds1 (ps := ["self", "locks", "pairs"]) 2 0 (List.cons_ne_nil _ _) rfl (fun _ _ _ _ _ _ _ us its h1 h2 => match us, its, h1, h2 with | [_, _], [_], _, _ => ⟨_, rfl, rfl⟩)
  obtain ⟨mv_l, b_Life___init__⟩ := F_Life___init__.kbinds0 (ps := ["self", "place", "hand", "drafts", "called"]) 1 ["place", "hand", "called"] [("drafts", .ref (kwAt ("Life", some "__init__") "drafts" K))] gLife (List.cons_ne_nil _ _) (fun q hq => hq) gLife_rel (fun _ _ _ _ _ _ us mv ws h1 h2 h3 => match us, mv, ws, h1, h2, h3 with | [_], [_], [_, _, _], _, _, _ => ⟨_, _, _, _, _, _, rfl, rfl, rfl⟩)
  refine ⟨fd_law, fun s v => b_law s [v] rfl, fun base _ _ tb0 => ?_⟩
  have c__law_draw : Cal P w K mg base 1 "_law_draw" spDraw [] := ⟨_, _, _, _, ok_draw F__law_draw T, (He.glo_ok X G (c.t.d.fact 3 (f := .glo "_law_draw") rfl)), F__law_draw.kp, b__law_draw, .nil⟩
  have c__law_pot : Cal P w K mg base 1 "_law_pot" (spPot K) [] := ⟨_, _, _, _, ok_pot F__law_pot T, (He.glo_ok X G (c.t.d.fact 2 (f := .glo "_law_pot") rfl)), F__law_pot.kp, b__law_pot, .nil⟩
  have c__law_name : Cal P w K mg base 2 "_law_name" spName [] := ⟨_, _, _, _, ok_name F__law_name T c__law_draw, (He.glo_ok X G (c.t.d.fact 4 (f := .glo "_law_name") rfl)), F__law_name.kp, b__law_name, .nil⟩
  have c__law_latches : Cal P w K mg base 3 "_law_latches" spLatches [] := ⟨_, _, _, _, ok__law_latches F__law_latches T c__law_draw c__law_name, (He.glo_ok X G (c.t.d.fact 6 (f := .glo "_law_latches") rfl)), F__law_latches.kp, b__law_latches, .nil⟩
  have c__law_some : Cal P w K mg base 2 "_law_some" (spSome K) [] := ⟨_, _, _, _, ok__law_some F__law_some T c__law_draw, (He.glo_ok X G (c.t.d.fact 9 (f := .glo "_law_some") rfl)), F__law_some.kp, b__law_some, .nil⟩
  have c__law_number : Cal P w K mg base 2 "_law_number" spNumber [] := ⟨_, _, _, _, ok__law_number F__law_number T c__law_draw, (He.glo_ok X G (c.t.d.fact 5 (f := .glo "_law_number") rfl)), F__law_number.kp, b__law_number, .nil⟩
  have oc : OrdC K (He.ga K "Order") := ⟨He.cls_ok (c.t.d.fact 35 (f := .cls "Order") rfl), He.noat_ok (c.t.d.fact 36 (f := .noat "Order" "own_locks") rfl), He.noat_ok (c.t.d.fact 37 (f := .noat "Order" "own_pairs") rfl)⟩
  have lc : LifC K (He.ga K "Life") := ⟨He.cls_ok (c.t.d.fact 49 (f := .cls "Life") rfl), He.noat_ok (c.t.d.fact 50 (f := .noat "Life" "place") rfl), He.noat_ok (c.t.d.fact 51 (f := .noat "Life" "hand") rfl), He.noat_ok (c.t.d.fact 52 (f := .noat "Life" "drafts") rfl), He.noat_ok (c.t.d.fact 53 (f := .noat "Life" "called") rfl)⟩
  have m_Order_want : Met P w K mg base 1 (He.ga K "Order") "want" (spWant (He.ga K "Order")) [] := ⟨_, _, _, _, He.cls_ok (c.t.d.fact 35 (f := .cls "Order") rfl), He.meth_ok (c.t.d.fact 39 (f := .meth "Order" "want") rfl), ok_Order_want F_Order_want T oc, b_Order_want, .nil⟩
  have m_Order_has : Met P w K mg base 2 (He.ga K "Order") "has" (spHas (He.ga K "Order")) [] := ⟨_, _, _, _, He.cls_ok (c.t.d.fact 35 (f := .cls "Order") rfl), He.meth_ok (c.t.d.fact 42 (f := .meth "Order" "has") rfl), ok_Order_has F_Order_has T oc m_Order_want, b_Order_has, .nil⟩
  have m_Order_after : Met P w K mg base 1 (He.ga K "Order") "after" (spAfter (He.ga K "Order")) [] := ⟨_, _, _, _, He.cls_ok (c.t.d.fact 35 (f := .cls "Order") rfl), He.meth_ok (c.t.d.fact 43 (f := .meth "Order" "after") rfl), ok_Order_after F_Order_after T oc, b_Order_after, .nil⟩
  have m_Order_behind : Met P w K mg base 2 (He.ga K "Order") "behind" (spBehind (He.ga K "Order")) [] := ⟨_, _, _, _, He.cls_ok (c.t.d.fact 35 (f := .cls "Order") rfl), He.meth_ok (c.t.d.fact 44 (f := .meth "Order" "behind") rfl), ok_Order_behind F_Order_behind T oc m_Order_want m_Order_after, b_Order_behind, .nil⟩
  have m_Order_leads : Met P w K mg base 3 (He.ga K "Order") "leads" (spLeads (He.ga K "Order")) [] := ⟨_, _, _, _, He.cls_ok (c.t.d.fact 35 (f := .cls "Order") rfl), He.meth_ok (c.t.d.fact 45 (f := .meth "Order" "leads") rfl), ok_Order_leads F_Order_leads T oc m_Order_want m_Order_behind, b_Order_leads, .nil⟩
  have m_Order_with_pair : Met P w K mg base 4 (He.ga K "Order") "with_pair" (spWith (He.ga K "Order") (cT0 K).2 lamQ) [] := ⟨_, _, _, _, He.cls_ok (c.t.d.fact 35 (f := .cls "Order") rfl), He.meth_ok (c.t.d.fact 46 (f := .meth "Order" "with_pair") rfl), ok_Order_with_pair F_Order_with_pair (code_of F_Order_with_pair) tb0 T oc m_Order_has m_Order_leads, b_Order_with_pair, .nil⟩
  have hd : ∀ H, SqT K H (He.dflAt ("Order", some "__init__") 0 K) [] := nilB_ok c.more
  have m_Order : Mak P w K mg base 1 "Order" (He.ga K "Order") (spInit K (He.ga K "Order")) [.ref (He.dflAt ("Order", some "__init__") 0 K)] := ⟨_, _, _, _, He.mkr_ok (c.t.d.fact 38 (f := .mkr "Order") rfl), ok_Order___init__ F_Order___init__ T oc, (He.glo_ok X G (c.t.d.fact 34 (f := .glo "Order") rfl)), b_Order___init__, vs_o⟩
  have m_Order_added : Met P w K mg base 5 (He.ga K "Order") "added" (spAdded (He.ga K "Order") (cT0 K).2 lamQ) [] := ⟨_, _, _, _, He.cls_ok (c.t.d.fact 35 (f := .cls "Order") rfl), He.meth_ok (c.t.d.fact 47 (f := .meth "Order" "added") rfl), ok_Order_added F_Order_added T oc hd m_Order m_Order_with_pair, b_Order_added, .nil⟩
  have c__law_order_of : Cal P w K mg base 6 "_law_order_of" (spOrderOf K (He.ga K "Order") (cT0 K).2 lamQ) [] := ⟨_, _, _, _, ok__law_order_of F__law_order_of T oc hd c__law_draw m_Order m_Order_added, (He.glo_ok X G (c.t.d.fact 7 (f := .glo "_law_order_of") rfl)), F__law_order_of.kp, b__law_order_of, .nil⟩
  have m_Order_locks : Met P w K mg base 1 (He.ga K "Order") "locks" (spLocks (He.ga K "Order")) [] := ⟨_, _, _, _, He.cls_ok (c.t.d.fact 35 (f := .cls "Order") rfl), He.meth_ok (c.t.d.fact 40 (f := .meth "Order" "locks") rfl), ok_Order_locks F_Order_locks T oc, b_Order_locks, .nil⟩
  have m_Order_pairs : Met P w K mg base 1 (He.ga K "Order") "pairs" (spPairs (He.ga K "Order")) [] := ⟨_, _, _, _, He.cls_ok (c.t.d.fact 35 (f := .cls "Order") rfl), He.meth_ok (c.t.d.fact 41 (f := .meth "Order" "pairs") rfl), ok_Order_pairs F_Order_pairs T oc, b_Order_pairs, .nil⟩
  have c_held_locks : Cal P w K mg base 1 "held_locks" spHeld [] := ⟨_, _, _, _, ok_held_locks F_held_locks T, (He.glo_ok X G (c.t.d.fact 0 (f := .glo "held_locks") rfl)), F_held_locks.kp, b_held_locks, .nil⟩
  have c_ask_of : Cal P w K mg base 3 "ask_of" (spAsk (He.ga K "Order")) [] := ⟨_, _, _, _, ok_ask_of F_ask_of T c_held_locks m_Order_locks m_Order_behind, (He.glo_ok X G (c.t.d.fact 1 (f := .glo "ask_of") rfl)), F_ask_of.kp, b_ask_of, .nil⟩
  have m_Life : MakK P w K mg base 1 "Life" (He.ga K "Life") (spLifeI (He.ga K "Life")) ["place", "hand", "called"] (fun vs zs => gLife vs [.ref (kwAt ("Life", some "__init__") "drafts" K)] zs) := ⟨_, _, _, _, He.mkr_ok (c.t.d.fact 54 (f := .mkr "Life") rfl), ok_Life___init__ F_Life___init__ lc, (He.glo_ok X G (c.t.d.fact 48 (f := .glo "Life") rfl)), b_Life___init__⟩
  have c__law_life : Cal P w K mg base 3 "_law_life" (spLifeD K) [] := ⟨_, _, _, _, ok__law_life (fun _ _ _ _ => rfl) F__law_life T c__law_draw c__law_number m_Life, (He.glo_ok X G (c.t.d.fact 10 (f := .glo "_law_life") rfl)), F__law_life.kp, b__law_life, .nil⟩
  have c__law_all_behind : Cal P w K mg base 1 "_law_all_behind" spAllB [] := ⟨_, _, _, _, ok__law_all_behind F__law_all_behind T, (He.glo_ok X G (c.t.d.fact 8 (f := .glo "_law_all_behind") rfl)), F__law_all_behind.kp, b__law_all_behind, .nil⟩
  have c__law_due : Cal P w K mg base 2 "_law_due" (spDue K) [] := ⟨_, _, _, _, ok__law_due F__law_due T c__law_all_behind, (He.glo_ok X G (c.t.d.fact 11 (f := .glo "_law_due") rfl)), F__law_due.kp, b__law_due, .nil⟩
  have c__law_right : CalG P w K mg base 7 "_law_right" (spRight (cT0 K).2 lamQ) := ⟨_, _, _, ok__law_right F__law_right T c__law_order_of c__law_some c__law_life c_ask_of c__law_due m_Order_pairs, (He.glo_ok X G (c.t.d.fact 12 (f := .glo "_law_right") rfl)), F__law_right.kp, b__law_right⟩
  exact ok_law F_law T c__law_pot c__law_latches c__law_right
end K42
open PySem PySem.W PySem.Calls PyProof.Rows
set_option maxRecDepth 100000 in
set_option maxHeartbeats 0 in
theorem PySem.Challenge.cw_turnedback_k42_what_an_ask_comes_to_holds : PySem.Challenge.rw_turnedback_k42_what_an_ask_comes_to.Holds := by
  w_on; o_law
  refine HandSHeadRun.head_any (r := OpenLaw.row PySem.Challenge.rw_turnedback_k42_what_an_ask_comes_to) (q := view (OpenLaw.row PySem.Challenge.rw_turnedback_k42_what_an_ask_comes_to).prog [22]) (H := K42.hk) (ob := K42.ob) (M := 6000) (loose := K42.loose) (d := HandSHeadRun.topDef (OpenLaw.row PySem.Challenge.rw_turnedback_k42_what_an_ask_comes_to).prog 22) (kwd := []) K42.ob_eq
    (by kernel_rfl) (fun s => by kernel_rfl) K42.run (by kernel_rfl) (by kernel_rfl) (by kernel_rfl) (by rfl) (by first | assumption | decide +kernel) (by decide +kernel) ⟨rfl, rfl, rfl, rfl, rfl, by decide +kernel⟩ ?hw ?hc
  case hw => w_witness2
  case hc =>
    refine TB.walk_ofTG (l := PySem.Challenge.rw_turnedback_k42_what_an_ask_comes_to) (n := 63) (k := 8) (x := "_law_script") (CX := L2.CX0) rfl (by decide) (by kernel_rfl) ⟨rfl, by decide, by decide⟩ ?F (fun _ _ _ _ z => z)
    intro w mg fa h Y G hmg0
    obtain ⟨K, KX, c⟩ := Y
    have hmg : mg ("law" : PySem.Str) = some (.ref fa) := by
      have e : (HandSHeadRun.topDef (OpenLaw.row PySem.Challenge.rw_turnedback_k42_what_an_ask_comes_to).prog 22).name = ("law" : PySem.Str) := by kernel_rfl
      rw [← e]
      exact hmg0
    obtain ⟨fd, hb, hF⟩ := K42.facts (P := (PySem.Challenge.rw_turnedback_k42_what_an_ask_comes_to).prog) (w := w) KX G hmg c
    have hin : (("Order", some "with_pair") : He.Defn) ∈ K42.tf := List.mem_cons_self
    refine ⟨K, fd, K42.spLaw K (K42.cT0 K).2 K42.lamQ, (K42.cT0 K).1, (K42.cT0 K).2, KX, c.empty _ hin, c.out _ hin, PySem.W.codeHd_of_K KX (c.hd _ hin), hb, fun H a ns hl hO hT hS => ⟨a, ns, rfl, hS, ?_, hl, hO.noT, TB.TabS_nil hT, fun _ => rfl⟩, hF⟩
    exact TB.ne_tab hS hT (c.out _ hin)
