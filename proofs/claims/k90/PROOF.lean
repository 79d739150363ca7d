import PyProof.Rows.All
import Wide.All
import OpenK.AllK
import Wide.FinOn
import HandS.ForMost
import KE.KIntText
import HandS.Exc
import HandS.ExcOwn
import PyProof.ReprRoads
import HandS.ExcField
import HandS.ExcIs
import KE.KExcIs
import PyProof.EqAt
import PyProof.EqKinds
import PyProof.TupleCall
import HandS.ForSpec
import HandS.Wide
import HandS.WordsExc
import HandS.Codes
import HandS.IsInst
import PyProof.StrOps2
import PySem.Challenge.RW_stepmaps_k90_fractions_and_chains_as_tex
import HandS.FStr
import HandS.Style
set_option Elab.async false
set_option linter.all false
set_option maxRecDepth 100000
set_option maxHeartbeats 4000000
set_option pp.maxSteps 300
set_option pp.deepTerms false
/-! Great ints as texts: int(text) and str(n) below 4300 digits, over the hand layer. -/
namespace SmA
open PySem PySem.W PySem.Calls PySem.NumText PyProof.Rows L2

/-- a name that the written part's namespace at L does not hold -/
theorem ns_none {K : Frag} {h : Heap} {L : Addr} {m : Str → Option Value} {x : Str} (kin : K.In h) (ns : h.Ns L m) (q : nsIn K L x = some none) : m x = none := by
  obtain ⟨ob, es, ep, hob, hdat, _, hfind⟩ := ns
  unfold nsIn at q
  split at q
  · rename_i c d es2 n2 sl look
    have there := kin _ _ look
    rw [hob] at there
    cases there
    cases hdat
    split at q
    · cases q
    · rename_i nothing
      rw [← hfind]
      unfold nsFind findBy
      rw [← Array.find?_toList, nothing]
      rfl
  · cases q

/-- the run's limit on digits stands as it was booted -/
abbrev NoDig (K : Frag) : Prop := nsIn K cStatics "sys.int_max_str_digits" = some none

theorem nodig {X : Cx} {pins : List (Addr × Obj)} {σ : L2.St} {H : Hp} {s : Shared} (hz : NoDig X.K) (I : Inv X pins σ H s) : s.heap.NoDigits := by
  obtain ⟨mc, nsc, _⟩ := I.nolimit
  exact ⟨mc, nsc, ns_none I.kIn nsc hz⟩

/-! ### int(text) -/
theorem max_digits {M : Model} {A : Around} {E : Value → Shared → Prop} {s : Shared} {Q : Nat → Shared → Prop} (nd : s.heap.NoDigits) (h : Q 4300 s) : wpAny M A Builtin.intMaxStrDigits Q E s := by
  obtain ⟨mc, nsc, non⟩ := nd
  unfold Builtin.intMaxStrDigits
  refine wpAny_bind (wpAny_nsGet nsc ?_)
  rw [non]
  exact wpAny_pure h

structure Box (p : Prop) : Prop where
  out : p

theorem text_long {M : Model} {A : Around} {E : Value → Shared → Prop} {s : Shared} {Q : Value → Shared → Prop} {v : Value} {text : List Nat} {n : Int} (nd : s.heap.NoDigits)
    (hs : ¬ (text.takeWhile (· != 0)).length ≤ 640) (hr : (int_private% "readNumeral") 4300 10 (text.takeWhile (· != 0)) = (int_private% "Numeral.value") n)
    (ha : ((text.takeWhile (· != 0)).length == text.length) = true) (h : Q (.int n s.toks) { s with toks := s.toks + 1 }) :
    wpAny M A ((int_private% "intFromText") v text 10) Q E s := by
  have step : wpAny M A (Builtin.intMaxStrDigits : Sem Nat) (fun l s' => l = 4300 ∧ s' = s) E s := max_digits nd ⟨rfl, rfl⟩
  show wpAny M A (if (text.takeWhile (· != 0)).length ≤ 640 then _ else _) Q E s
  rw [if_neg hs]
  refine wpAny_bind (wpAny_mono step (fun l s' q => ?_) fun _ _ z => z)
  obtain ⟨rfl, rfl⟩ := q
  dsimp only
  rw [hr]
  dsimp only
  rw [if_pos ha]
  obtain ⟨hp, g, d, tk, os⟩ := s'
  repeat (any_goals (first | assumption | wp_step))

/-- int of a text -/
theorem meets_text {x : PySem.Str} {u : Tok} {n : Int} (hl : x.length ≤ 4300) (hn : PySem.intText? x = some n) :
    Meets (Builtin.«int.__new__» ⟨[.type "int", .str x u], []⟩) (fun _ R s => s.heap.NoDigits ∧ R (.ok (.ret (.int n s.toks))) { s with toks := s.toks + 1 }) := by
  intro prog w A R s h
  obtain ⟨nd, hR⟩ := h
  have f1 := F.conv_sub_int
  have f2 := F.madeHere_int
  have f3 := KIN.str_int
  have f4 := KIN.str_idx
  have f5 := KIN.str_trunc
  have f6 : typeOf (.str x u) = pure (.type "str") := rfl
  by_cases short : (numSeenOf x).length ≤ 640
  · have hr : (int_private% "readNumeral") 0 10 (numSeenOf x) = (int_private% "Numeral.value") n ∧ ((numSeenOf x).length == (numTextOf x).length) = true := by
      rcases read0 x short with ⟨m, h1, h2, h3⟩ | ⟨h1, _⟩
      · rw [hn] at h1
        injection h1 with h1
        subst h1
        exact ⟨h3, h2⟩
      · rw [hn] at h1
        cases h1
    have hk := Box.mk (And.intro short hr)
    clear short hr hl hn
    repeat (any_goals (first
      | assumption
      | ((with_reducible show wpAny _ _ ((int_private% "intFromText") _ _ _) _ _ _); refine KIN.wp_text hk.out.1 hk.out.2.1 hk.out.2.2 ?_)
      | wp_step))
    all_goals first | exact hR | skip
  · have hr : (int_private% "readNumeral") 4300 10 (numSeenOf x) = (int_private% "Numeral.value") n ∧ ((numSeenOf x).length == (numTextOf x).length) = true := by
      rcases read4300 x (by rw [sizeLine_eq]; omega) with ⟨m, h1, h2, h3⟩ | ⟨h1, _⟩
      · rw [hn] at h1
        injection h1 with h1
        subst h1
        exact ⟨h3, h2⟩
      · rw [hn] at h1
        cases h1
    have hk := Box.mk (And.intro short hr)
    clear short hr hl hn
    repeat (any_goals (first
      | assumption
      | ((with_reducible show wpAny _ _ ((int_private% "intFromText") _ _ _) _ _ _); refine text_long nd hk.out.1 hk.out.2.1 hk.out.2.2 ?_)
      | wp_step))
    all_goals first | exact hR | skip

section
variable {X : Cx}
/-- int(text), below 4300 signs -/
theorem call_intB (hz : NoDig X.K) : CallR X (.type "int") (fun xs H Q => ∃ a n, xs = [.str a] ∧ PySem.intText? a = some n ∧ a.length ≤ 4300 ∧ Q (.int n) H) := by
  intro pins s σ H xs us Q I rs h
  obtain ⟨a, n, rfl, hn, hl, h⟩ := h
  cases rs with
  | cons r1 rest =>
    cases rest
    obtain ⟨t, rfl⟩ := r1
    exact call_int_1 (meets_text hl hn) ⟨nodig hz I, ⟨rfl, .int n, H, I.tok _, ⟨_, rfl⟩, h⟩⟩
end
end SmA

/-! Defs that ask for repr of a list, a tuple, a dict: their promise is shown where no such repr is under way (guards). -/
namespace SmA
open PySem PySem.W PySem.Calls PyProof.Rows L2

/-- nothing is being shown around -/
abbrev Quiet (A : Around) : Prop := A.guards = some []

/-- a def's promise, where nothing is being shown around -/
structure FnG (P : Program) (w : World) (K : Frag) (mg : Str → Option Value) (base : Heap) (cx : CXT) (k : Nat) (f : Addr) (fd : FuncData) (ps : List Str) (sp : Sp) : Prop where
  len : ∀ vs H Q E, sp vs H Q E → vs.length = ps.length
  run : ∀ (A : Around) (out : List Env) (s : Shared) (H : Hp) (args : Args) (us : List Value) (vs : List V) (Q : VK) (E : XK), Quiet A → Room k A → Env0 P w K mg base A out s H →
    BindsTo s fd args (ps.zip us) → Vals vs us → sp vs H Q E → codeAny (model P w) A (.call (.ref f) args) (CR cx out P w H s Q E) s

theorem toG {P : Program} {w : World} {K : Frag} {mg : Str → Option Value} {base : Heap} {cx : CXT} {k : Nat} {f : Addr} {fd : FuncData} {ps : List Str} {sp : Sp} (F : FnOk P w K mg base cx k f fd ps sp) : FnG P w K mg base cx k f fd ps sp :=
  ⟨F.len, fun A out s H args us vs Q E _ => F.run A out s H args us vs Q E⟩

section
variable {P : Program} {w : World} {K : Frag} {mg : Str → Option Value} {base : Heap} {cx : CXT}
/-- the rule for such a def, by its body -/
theorem okG {x qual : Str} {st : Stmt} {f : Addr} {fd : FuncData} {N ps : List Str} {k : Nat} {sp : Sp} (F : Fun K x qual st f fd) (S : FnScope N ps (defScope st)) (len : ∀ vs H Q E, sp vs H Q E → vs.length = ps.length)
    (body : ∀ (cdv : Value) (A : Around) (out : List Env) (s : Shared) (H : Hp) (vs : List V) (Q : VK) (E : XK), Quiet (A.deeper (envOfC qual (defScope st) s.heap.objs.size f cdv)) → Room k (A.deeper (envOfC qual (defScope st) s.heap.objs.size f cdv)) → sp vs H Q E →
      ∃ t, PSs (cxOf cx P w K mg base N qual (defScope st) f cdv A out s H E) (defBody st) t ∧ t { nx := fun _ H' => Q .non H', rt := Q } (start N vs) H) : FnG P w K mg base cx (k + 1) f fd ps sp := by
  obtain ⟨oc, od, kV, doc, pm, an, cdv, ct, osl, rfl, lk, code⟩ := F.ex
  refine ⟨len, fun A out s H args us vs Q E quiet room e0 binds rel wish => ?_⟩
  have many := len _ _ _ _ wish
  have kept : ∀ b o, base.get? b = some o → s.heap.get? b = some o := fun b o q => (e0.bs b o q).1
  have KX : K.In s.heap := e0.mod.kin.keeps kept
  have places : ∀ y ∈ ps.zip us, (defScope st).names.lookup y.1 = some .local ∨ ((defScope st).names.lookup y.1 = some .cell ∧ ((cellsFrom (s.heap.objs.size + 1) (defScope st).names []).lookup y.1).isSome = true) := by
    intro y hy
    rcases S.par y.1 (List.of_mem_zip (show (y.1, y.2) ∈ _ from hy)).1 with q | q
    · exact Or.inl q
    · exact Or.inr ⟨q, PySem.W.cellsFrom_some _ _ _ (Or.inl q)⟩
  refine codeAny_call_function room.depth (KX _ _ lk) rfl S.co S.gen rfl (PySem.W.codeRec_of KX code) (binds _ _ _ _ ?_)
  refine wpAny_newFunctionEnv_cells S.kind places fun env same s1 entry => ?_
  subst same
  refine ⟨(e0.mod.nolimit.keeps kept).keeps entry.toInCall.keep, codeAny_func ?_⟩
  obtain ⟨t, derived, reads⟩ := body cdv A out s H vs Q E quiet (room.deeper _) wish
  have I0 : Inv (cxOf cx P w K mg base N qual (defScope st) f cdv A out s H E) [] (start N vs) H s1 := inv_start S room.hd e0 many rel entry
  refine wpAny_mono (derived.run [] s1 (start N vs) H _ I0 reads) (fun flow s' done => ?_) fun _ _ z => z
  cases flow with
  | ret u =>
    obtain ⟨v, σ', H', J, rv, q⟩ := done
    exact ⟨v, H', J.os, J.bare, J.base, J.hok, rv, q⟩
  | next =>
    obtain ⟨σ', H', J, q⟩ := done
    exact ⟨.non, H', J.os, J.bare, J.base, J.hok, rfl, q⟩
  | brk =>
    obtain ⟨_, _, _, no⟩ := done
    exact no.elim
  | cont =>
    obtain ⟨_, _, _, no⟩ := done
    exact no.elim
end

section
variable {X : Cx} {cx : CXT} {k : Nat} {f : Addr} {fd : FuncData} {ps : List Str} {sp : Sp} {E : L2.St → XK} {x : Str} {p pos : Pos} {e : Expr} {es : List Expr} {t : TA}
/-- a def's promise by any of its two forms, for a call -/
structure CalX (X : Cx) (cx : CXT) (k : Nat) (f : Addr) (sp : Sp) : Prop where
  ex : ∃ (fd : FuncData) (ps : List Str), (FnOk X.prog X.w X.K X.mg X.base cx k f fd ps sp ∨ (FnG X.prog X.w X.K X.mg X.base cx k f fd ps sp ∧ Quiet X.A)) ∧ keepIn X.K (.ref f) = true ∧ Binds X.K fd ps []

theorem run_cal {pins : List (Addr × Obj)} {σ : L2.St} {H : Hp} {s : Shared} {Q : VK} {E : XK} {us : List Value} {vs : List V} (c : CalX X cx k f sp) (room : Room k X.A) (hx : PassesAt cx X σ E)
    (I : Inv X pins σ H s) (r : Vals vs us) (h : sp vs H Q E) : wpAny (model X.prog X.w) X.A (call (.ref f) us) (EP X pins σ Q) X.xe s := by
  obtain ⟨fd, ps, F, kp, b⟩ := c.ex
  have G : FnG X.prog X.w X.K X.mg X.base cx k f fd ps sp := F.elim toG And.left
  have many : (us ++ []).length = ps.length := by rw [List.append_nil, ← r.length]; exact G.len _ _ _ _ h
  have bound := b s us I.kIn many
  rw [List.append_nil] at bound
  have run : codeAny (model X.prog X.w) X.A (.call (.ref f) ⟨us, []⟩) (CR cx X.stack X.prog X.w H s Q E) s := by
    rcases F with F | ⟨F, quiet⟩
    · exact F.run X.A X.stack s H ⟨us, []⟩ us vs Q E room I.env0 bound r h
    · exact F.run X.A X.stack s H ⟨us, []⟩ us vs Q E quiet room I.env0 bound r h
  refine wpAny_call (codeAny_mono run fun res s' done => ?_)
  match res, done with
  | .error err, done => exact hx pins H s err s' I done
  | .ok (.ret u), done => exact I.after done
  | .ok .next, done => exact False.elim done
  | .ok .brk, done => exact False.elim done
  | .ok .cont, done => exact False.elim done

/-- x(..), x a name of the module -/
theorem pe_g (c : CalX X cx k f sp) (room : Room k X.A) (hg : Gl X x) (hm : X.mg x = some (.ref f)) (hx : ∀ σ, PassesAt cx X σ (E σ))
    (args : PA X (e :: es) t) (hdb : (x == ("__debug__" : Str)) = false := by decide) (star : starEach (e :: es) X.env = (false, eval e X.env) :: starEach es X.env := by rfl) (plain : (backTo pos (starEach es X.env)).any (·.1) = false := by rfl) :
    PE X (.Call (.Name x p) (e :: es) [] pos) (tCallS sp E t) := by
  obtain ⟨fd, ps, F, kp, b⟩ := c.ex
  refine ⟨fun pins s σ H Q I h => ?_⟩
  refine wpAny_Call_Name_kw (ld_glob I hg hm ?_ hdb)
  refine PySem.W.callWith_K (h₀ := X.base) I.ok.mod.kin kp (thn (args.run pos pins s σ H _ I h) fun us s1 done => ?_) star plain
  obtain ⟨vs, H1, I1, r, q⟩ := done
  exact ⟨I1.kIn, run_cal c room (hx σ) I1 r q⟩

/-- x(..), x a local that holds the def at f -/
def tLoc (i : Nat) (f : Addr) (sp : Sp) (E : L2.St → XK) (t : TA) : TE := fun σ H Q => σ[i]? = some (some (.ref f)) ∧ t σ H fun vs H1 => sp vs H1 Q (E σ)
theorem pe_l {i : Nat} (c : CalX X cx k f sp) (room : Room k X.A) (hN : X.N[i]? = some x) (hv : Vis X.env.scope x) (hx : ∀ σ, PassesAt cx X σ (E σ))
    (args : PA X (e :: es) t) (hdb : (x == ("__debug__" : Str)) = false := by decide) (hcd : (x == ("__classdict__" : Str)) = false := by decide)
    (star : starEach (e :: es) X.env = (false, eval e X.env) :: starEach es X.env := by rfl) (plain : (backTo pos (starEach es X.env)).any (·.1) = false := by rfl) :
    PE X (.Call (.Name x p) (e :: es) [] pos) (tLoc i f sp E t) := by
  obtain ⟨fd, ps, F, kp, b⟩ := c.ex
  refine ⟨fun pins s σ H Q I h => ?_⟩
  obtain ⟨slot, h⟩ := h
  have name := (pe_var (pos := p) hN hv hdb hcd).run pins s σ H (fun v H1 => v = .ref f ∧ H1 = H) I ⟨.ref f, slot, rfl, rfl⟩
  refine wpAny_Call_Name_kw (thn name fun u s1 done => ?_)
  obtain ⟨v, H1, I1, r1, rfl, rfl⟩ := done
  obtain rfl : u = Value.ref f := r1
  refine PySem.W.callWith_K (h₀ := X.base) I.ok.mod.kin kp (thn (args.run pos pins s1 σ _ _ I1 h) fun us s2 done => ?_) star plain
  obtain ⟨vs, H2, I2, r, q⟩ := done
  exact ⟨I2.kIn, run_cal c room (hx σ) I2 r q⟩
end
end SmA

/-! repr of data of any kind, dicts within; of flat sequences of great ints. -/
namespace SmA
open PySem PySem.W PySem.Calls PyProof.Rows L2

/-- a dict's key as data -/
def kD : Key → PyData
  | .inl i => .int i
  | .inr x => .str x

mutual
/-- v is the data d: dicts of int and text keys within -/
inductive DV (K : Frag) (H : Hp) : V → PyData → Prop
  | non : DV K H .non .none
  | bl (b : Bool) : DV K H (.bl b) (.bool b)
  | int (i : Int) : DV K H (.int i) (.int i)
  | str (x : PySem.Str) : DV K H (.str x) (.str x)
  | lst {a : Addr} {xs : List V} {ds : List PyData} : SqL K H a xs → DVs K H xs ds → DV K H (.ref a) (.list ds)
  | tup {a : Addr} {xs : List V} {ds : List PyData} : SqT K H a xs → DVs K H xs ds → DV K H (.ref a) (.tuple ds)
  | dct {a : Addr} {kvs : List (Key × V)} {ds : List PyData} : Rd H a (.dK kvs) → DVs K H (kvs.map (·.2)) ds → DV K H (.ref a) (.dict ((kvs.map fun kv => kD kv.1).zip ds))
inductive DVs (K : Frag) (H : Hp) : List V → List PyData → Prop
  | nil : DVs K H [] []
  | cons {v : V} {vs : List V} {d : PyData} {ds : List PyData} : DV K H v d → DVs K H vs ds → DVs K H (v :: vs) (d :: ds)
end

/-- the module table stands, a dict -/
abbrev SysB (base : Heap) : Prop := ∃ mm, base.Ns sysModules mm
theorem sys_list {h : Heap} {a : Addr} {o : Obj} {vs : Array Value} {n : Nat} (sy : SysB h) (ho : h.get? a = some o) (hd : o.data = .seq vs n) : a ≠ sysModules := by
  intro e
  subst e
  obtain ⟨mm, ob, es, ep, hob, hdat, _⟩ := sy
  rw [ho] at hob
  cases hob
  rw [hd] at hdat
  cases hdat

theorem keys_read {P : Program} {w : World} {h : Heap} : ∀ {es : List DictEntry} {kvs : List (Key × V)} {vs : List (Key × Value)}, KV kvs vs → Pairs (mixKind P w) es vs →
    ReadsAll h (es.map (·.key)) (kvs.map fun kv => kD kv.1) [] ∧ Vals (kvs.map (·.2)) (es.map (·.val))
  | _, _, _, .nil, .nil => ⟨.nil, .nil⟩
  | _, _, _, .cons (a := p1) (b := p2) r rs, .cons (e := ent) k v ps => by
    obtain ⟨e1, e2⟩ := r
    obtain ⟨q1, q2⟩ := keys_read (h := h) rs ps
    refine ⟨?_, ?_⟩
    · have k' := k
      rw [← e1] at k'
      have one : Reads h ent.key (kD p1.1) [] := by
        rcases keyIs_shape (show keyIs p1.1 ent.key = true from k') with ⟨i, t, f1, f2⟩ | ⟨x, t, f1, f2⟩
        · rw [f1, f2]; exact Reads.int i t
        · rw [f1, f2]; exact Reads.str x t
      exact ReadsAll.cons (as := []) (bs := []) one q1
    · rw [List.map_cons, List.map_cons, v]
      exact .cons e2 q2

theorem DVs.length {K : Frag} {H : Hp} : ∀ {vs : List V} {ds : List PyData}, DVs K H vs ds → vs.length = ds.length
  | _, _, .nil => rfl
  | _, _, .cons _ t => by rw [List.length_cons, List.length_cons, DVs.length t]

section
variable {X : Cx} {pins : List (Addr × Obj)} {σ : L2.St} {H : Hp} {s : Shared}
mutual
theorem DV.reads (I : Inv X pins σ H s) (sy : SysB X.base) : ∀ {v : V} {d : PyData}, DV X.K H v d → ∀ u, RelV v u → ∃ as, Reads s.heap u d as ∧ sysModules ∉ as
  | _, _, .non, _, r => by cases r; exact ⟨_, .none, List.not_mem_nil⟩
  | _, _, .bl b, _, r => by cases r; exact ⟨_, .bool b, List.not_mem_nil⟩
  | _, _, .int i, _, r => by obtain ⟨t, rfl⟩ := r; exact ⟨_, .int i t, List.not_mem_nil⟩
  | _, _, .str x, _, r => by obtain ⟨t, rfl⟩ := r; exact ⟨_, .str x t, List.not_mem_nil⟩
  | _, _, .lst hs ha, _, r => by
    cases r
    obtain ⟨its, rv, ⟨o, n, ho, hc, _, hd⟩, _⟩ := I.list hs
    obtain ⟨as, q, no⟩ := DVs.reads I sy ha its rv
    refine ⟨_, .list ho hc hd q, fun hm => ?_⟩
    rcases List.mem_cons.mp hm with e | hm
    · exact sys_list (sy.imp fun _ z => z.keeps I.bk) ho hd e.symm
    · exact no hm
  | _, _, .tup hs ha, _, r => by
    cases r
    obtain ⟨its, rv, ⟨o, ho, hc, n, hd⟩, _⟩ := I.tuple hs
    obtain ⟨as, q, no⟩ := DVs.reads I sy ha its rv
    exact ⟨_, .tuple ho hc hd q, no⟩
  | _, _, .dct (a := a) (kvs := kvs) (ds := ds) hs ha, _, r => by
    cases r
    obtain ⟨_, ne, vs, kv, o, es, ep, ho, ex, hd, _, ps, _⟩ := hs.ok I.hok
    obtain ⟨q1, q2⟩ := keys_read (h := s.heap) kv ps
    obtain ⟨bs, q3, no⟩ := DVs.reads I sy ha _ q2
    have len : (kvs.map fun kv => kD kv.1).length = ds.length := by
      have := ha.length
      rw [List.length_map] at this ⊢
      exact this
    have z1 : ((kvs.map fun kv => kD kv.1).zip ds).map (·.1) = kvs.map fun kv => kD kv.1 := List.map_fst_zip (Nat.le_of_eq len)
    have z2 : ((kvs.map fun kv => kD kv.1).zip ds).map (·.2) = ds := List.map_snd_zip (Nat.le_of_eq len.symm)
    refine ⟨a :: [] ++ bs, Reads.dict (o := o) (es := es) (n := ep) (kvs := (kvs.map fun kv => kD kv.1).zip ds) ho ex.1 hd (by rw [z1]; exact q1) (by rw [z2]; exact q3), fun hm => ?_⟩
    rcases List.mem_cons.mp (show sysModules ∈ a :: bs from hm) with e | hm
    · rw [← e] at ne
      exact absurd ne (by simp)
    · exact no hm
theorem DVs.reads (I : Inv X pins σ H s) (sy : SysB X.base) : ∀ {vs : List V} {ds : List PyData}, DVs X.K H vs ds → ∀ us, Vals vs us → ∃ as, ReadsAll s.heap us ds as ∧ sysModules ∉ as
  | _, _, .nil, _, r => by cases r; exact ⟨_, .nil, List.not_mem_nil⟩
  | _, _, .cons h t, _, r => by
    cases r with
    | cons r1 r2 =>
      obtain ⟨as, q1, n1⟩ := DV.reads I sy h _ r1
      obtain ⟨bs, q2, n2⟩ := DVs.reads I sy t _ r2
      exact ⟨_, .cons q1 q2, fun hm => (List.mem_append.mp hm).elim n1 n2⟩
end
end

section
variable {X : Cx}
/-- repr(x) of data -/
def rRepr (K : Frag) : List V → Hp → VK → Prop := fun xs H Q => ∃ x d, xs = [x] ∧ DV K H x d ∧ d.showable = true ∧ d.depth ≤ 60 ∧ d.shown.length ≤ sizeLine ∧ Q (.str d.shown) H
theorem call_repr (sy : SysB X.base) (quiet : Quiet X.A) (room : X.A.units + 64 < cLine) : CallR X (.builtin "repr") (rRepr X.K) := by
  intro pins s σ H xs us Q I rs h
  obtain ⟨x, d, rfl, hd, sh, dep, len, q⟩ := h
  cases rs with
  | @cons _ u _ _ r1 rest =>
    cases rest
    have atom : ∀ t, EP X pins σ Q (.str d.shown t) { s with toks := s.toks + 1 } := fun t => ⟨.str _, H, I.tok _, ⟨_, rfl⟩, q⟩
    cases hd with
    | non =>
      cases r1
      have := atom s.toks
      simp only [PyData.shown] at this
      exact P.repr_of_none this
    | bl b =>
      cases r1
      have := atom s.toks
      simp only [PyData.shown] at this
      exact P.repr_of_bool (by cases b <;> exact this)
    | int i =>
      obtain ⟨t, rfl⟩ := r1
      have := atom s.toks
      simp only [PyData.shown] at this
      exact P.repr_of_int (by simpa [PyData.showable] using sh) this
    | str y =>
      obtain ⟨t, rfl⟩ := r1
      have := atom s.toks
      simp only [PyData.shown] at this len
      exact P.repr_of_str this len
    | lst hs ha =>
      obtain ⟨as, r, no⟩ := DV.reads I sy (.lst hs ha) u r1
      cases r1
      exact repr_of_reads' r sh (fun _ => no) quiet (by omega) (fun _ _ e => e) (fun h' t tk k => ⟨.str _, H, I.kept k, ⟨_, rfl⟩, q⟩) len
    | tup hs ha =>
      obtain ⟨as, r, no⟩ := DV.reads I sy (.tup hs ha) u r1
      cases r1
      exact repr_of_reads' r sh (fun _ => no) quiet (by omega) (fun _ _ e => e) (fun h' t tk k => ⟨.str _, H, I.kept k, ⟨_, rfl⟩, q⟩) len
    | dct hs ha =>
      obtain ⟨as, r, no⟩ := DV.reads I sy (.dct hs ha) u r1
      cases r1
      exact repr_of_reads' r sh (fun _ => no) quiet (by omega) (fun _ _ e => e) (fun h' t tk k => ⟨.str _, H, I.kept k, ⟨_, rfl⟩, q⟩) len
end

/-! ### great ints in a flat list or tuple -/
/-- an int's decimals -/
abbrev dec (n : Int) : PySem.Str := Str.ofString (toString n)
section
variable {prog : Program} {w : World} {A : Around} {E : Value → Shared → Prop} {s : Shared}
theorem int_repr_call {i : Int} {t : Tok} {Q : Value → Shared → Prop} (nd : s.heap.NoDigits) (hi : i.natAbs < 10 ^ 4300) (h : Q (.str (dec i) s.toks) { s with toks := s.toks + 1 }) :
    wpAny (model prog w) A (call (.builtin "int.__repr__") [.int i t]) Q E s := by
  refine wpAny_call_entry F.slot_int_repr (typeIs_int s i t) F.entry_int_repr ?_ (F.args_int_repr_1 _)
  unfold Builtin.«int.__repr__»
  show wpAny _ _ (do let r ← Builtin.overDigitLimit? i; _) _ _ s
  refine wpAny_bind (overDigitLimit_any nd (fun small => ?_) fun big => absurd hi (Nat.not_lt.mpr big))
  exact wpAny_bind (wpAny_mkStr (wpAny_pure ⟨_, rfl, h⟩) (int_text_fits10 small))
theorem intK {h0 : Heap} {i : Int} {t : Tok} (nd : h0.NoDigits) (hi : i.natAbs < 10 ^ 4300) : ReprK prog w [] h0 0 (.int i t) (dec i) := by
  intro base hb A g E s Q _ _ hu hk0 hQ
  rw [pyReprUnder_leaf (by omega) (by intro a e; cases e)]
  unfold pyRepr
  refine wpAny_bind (wpAny_pyReprObj_slot (T := "int") (idr := "int.__repr__") (by omega) (typeIs_int s i t) F.slot_int_repr.toG (int_repr_call (nd.keeps hk0) hi ⟨_, _, rfl, ?_⟩))
  exact wpAny_pure (hQ s.heap _ fun _ _ e => e)
end
theorem intsK {P : Program} {w : World} {h0 : Heap} (nd : h0.NoDigits) : ∀ {ns : List Int} {us : List Value}, (∀ n ∈ ns, n.natAbs < 10 ^ 4300) → Vals (ns.map V.int) us → ReprAllK P w [] h0 0 us (ns.map dec)
  | [], _, _, r => by cases r; exact .nil
  | n :: ns, _, hb, r => by
    cases r with
    | cons r1 r2 =>
      obtain ⟨t, rfl⟩ := r1
      exact .cons (intK nd (hb n List.mem_cons_self)) (intsK nd (fun m hm => hb m (List.mem_cons_of_mem _ hm)) r2)
section
variable {X : Cx}
/-- repr of a list or a tuple of ints, however great -/
def rReprB (K : Frag) : List V → Hp → VK → Prop := fun xs H Q => ∃ (a : Addr) (ns : List Int), xs = [.ref a] ∧ (∀ n ∈ ns, n.natAbs < 10 ^ 4300) ∧
  ((SqL K H a (ns.map V.int) ∧ (listText (ns.map dec)).length ≤ sizeLine ∧ Q (.str (listText (ns.map dec))) H) ∨
   (SqT K H a (ns.map V.int) ∧ (tupleText (ns.map dec)).length ≤ sizeLine ∧ Q (.str (tupleText (ns.map dec))) H))
theorem call_reprB (hz : NoDig X.K) (quiet : Quiet X.A) (room : X.A.units + 64 < cLine) : CallR X (.builtin "repr") (rReprB X.K) := by
  intro pins s σ H xs us Q I rs h
  obtain ⟨a, ns, rfl, hb, h⟩ := h
  cases rs with
  | @cons _ u _ _ r1 rest =>
    cases rest
    obtain rfl : u = Value.ref a := r1
    have nd := nodig hz I
    rcases h with ⟨hs, len, q⟩ | ⟨hs, len, q⟩
    · obtain ⟨its, rv, ⟨o, n, ho, hc, _, hd⟩, _⟩ := I.list hs
      have all := intsK (P := X.prog) (w := X.w) nd hb rv
      refine call_repr_slot (by omega) ⟨o, ho, hc⟩ F.slot_list_repr.toG ?_
      cases its with
      | nil =>
        cases ns with
        | cons => cases rv
        | nil => exact call_list_repr_empty ⟨o, ho, hc⟩ ho hd ⟨_, _, rfl, ⟨.str _, H, I.tok _, ⟨_, rfl⟩, (by simpa only [List.map_nil, listText_nil] using q)⟩⟩
      | cons y l =>
        exact call_list_reprK (as := []) (d := 0) ho hc hd List.not_mem_nil (by simpa using all.length_eq) (fun i y e => all.item i y (by simpa using e)) quiet (fun b _ => Clear.nil b)
          (by show X.A.units + 1 + _ < _; omega) (fun _ _ e => e) (fun h' t tk k => ⟨_, _, rfl, ⟨.str _, H, I.kept k, ⟨_, rfl⟩, q⟩⟩) len
    · obtain ⟨its, rv, ⟨o, ho, hc, n, hd⟩, _⟩ := I.tuple hs
      have all := intsK (P := X.prog) (w := X.w) nd hb rv
      refine call_repr_slot (by omega) ⟨o, ho, hc⟩ F.slot_tuple_repr ?_
      exact call_tuple_reprK (as := []) (d := 0) ho hc hd List.not_mem_nil (by simpa using all) quiet (fun b _ => Clear.nil b)
        (by show X.A.units + 1 + _ < _; omega) (fun _ _ e => e) (fun h' t tk k => ⟨_, _, rfl, ⟨.str _, H, I.kept k, ⟨_, rfl⟩, q⟩⟩) len
end
end SmA

/-! The end of a law's row, its promise shown where nothing is being shown around. -/
namespace SmA
open PySem PySem.W PySem.Calls PyProof.Rows L2

section
variable {P : Program} {w : World} {K : Frag} {mg mb : PySem.Str → Option Value} {cx : CXT} {k : Nat} {fa a : Addr} {fd : FuncData} {x : PySem.Str} {sp : Sp} {s1 : Shared} {ns : List Int}
/-- the law's call from a heap H in which nothing but the script may be tracked -/
theorem law_from {H : Hp} (KX : K.In s1.heap) (hns : s1.heap.Ns mainGlobals mg) (hb : s1.heap.Ns builtinsNs mb) (hbb : ∀ x : PySem.Str, x ≠ "__name__" → mb x = bootBuiltins x) (hlim : s1.heap.NoLimit) (hsy : SysB s1.heap) (hg : s1.gens = #[])
    {vs : List Value} (ha : s1.heap.get? a = some { cls := .type "list", data := .seq vs.toArray }) (hr : Room k callerA)
    (F : ∀ base : Heap, K.In base → base.Ns mainGlobals mg → SysB base → FnG P w K mg base cx k fa fd [x] sp) (bind : ∀ (s : Shared) (u : Value), BindsTo s fd ⟨[u], []⟩ [(x, u)])
    (wish : sp [.ref a] H (fun v _ => v = .bl true) fun _ _ _ => False) (hcx : ∀ e s', cx [] H s1 (fun _ _ _ => False) e s' → False)
    (only : Only H) (ok : HOk P w H s1.heap) (at_a : ∀ b, H b ≠ none → b = a ∧ K.lookup b = none) :
    codeAny (model P w) callerA (.call (.ref fa) ⟨[.ref a], []⟩) (fun r s' => r = .ok (.ret (.bool true)) ∧ OldK s1.heap s'.heap ∧ s'.os = s1.os ∧ AllBare s'.gens) s1 := by
  have dict_free : ∀ {b : Addr} {o : Obj} {es : Array DictEntry} {n : Nat}, s1.heap.get? b = some o → o.data = .dict es n → H b = none := by
    intro b o es n hbo hd
    cases q : H b with
    | none => rfl
    | some u =>
      obtain ⟨rfl, _⟩ := at_a b (by rw [q]; simp)
      rw [ha] at hbo
      cases hbo
      cases hd
  have ground : ∀ {b : Addr} {m : PySem.Str → Option Value}, s1.heap.Ns b m → (hidT s1.heap H).Ns b m := by
    intro b m hm
    obtain ⟨o, es, n, ho, hd, rest⟩ := hm
    exact ⟨o, es, n, hidT_get ho (dict_free ho hd), hd, rest⟩
  have KB : K.In (hidT s1.heap H) := by
    intro b o lk
    refine hidT_get (KX b o lk) ?_
    cases q : H b with
    | none => rfl
    | some u =>
      have no := (at_a b (by rw [q]; simp)).2
      rw [lk] at no
      cases no
  obtain ⟨mc, l1, l2⟩ := hlim
  have M : Mod K mg (hidT s1.heap H) := ⟨KB, ground hns, ⟨mb, ground hb, hbb⟩, ⟨mc, ground l1, l2⟩⟩
  have e0 : Env0 P w K mg (hidT s1.heap H) callerA [] s1 H :=
    { frames := rfl, mod := M, bs := fun b o e => of_hidT e, bsz := Nat.le_of_eq (hidT_size _ _), funs := trivial, frf := fun b z => absurd (show b ∈ ([] : List Addr) from z) (by simp), hok := ok, bare := .of_eq hg }
  have G := F _ KB (ground hns) (hsy.imp fun _ z => ground z)
  refine codeAny_mono (G.run callerA [] s1 H ⟨[.ref a], []⟩ [.ref a] [.ref a] _ _ rfl hr e0 (bind s1 (.ref a)) (.cons rfl .nil) wish) fun r s' done => ?_
  match r, done with
  | .error err, done => exact (hcx err s' done).elim
  | .ok .next, done => exact False.elim done
  | .ok .brk, done => exact False.elim done
  | .ok .cont, done => exact False.elim done
  | .ok (.ret u), done =>
    obtain ⟨v, H', os, bare, un, ok', rel, true_⟩ := done
    obtain rfl : v = V.bl true := true_
    obtain rfl : u = Value.bool true := rel
    refine ⟨rfl, OldK.of_keep fun b o e => ?_, os, bare⟩
    cases q : H b with
    | none => exact un.keep b o e q (fun z => absurd (show b ∈ ([] : List Addr) from z) (by simp)) (by simp)
    | some u =>
      rcases only b with z | ⟨ob, xs, z⟩
      · rw [q] at z
        cases z
      · obtain ⟨e1, _⟩ := ok b _ z
        obtain ⟨e2, _⟩ := ok' b _ (un.frzs b ob _ z)
        rw [e] at e1
        cases e1
        exact e2

theorem law_quiet (KX : K.In s1.heap) (hns : s1.heap.Ns mainGlobals mg) (hb : s1.heap.Ns builtinsNs mb) (hbb : ∀ x : PySem.Str, x ≠ "__name__" → mb x = bootBuiltins x) (hlim : s1.heap.NoLimit) (hsy : SysB s1.heap) (hg : s1.gens = #[])
    {vs : List Value} (ha : s1.heap.get? a = some { cls := .type "list", data := .seq vs.toArray }) (hi : IntsAre vs ns) (hl : ns.length ≤ sizeLine) (hr : Room k callerA)
    (F : ∀ base : Heap, K.In base → base.Ns mainGlobals mg → SysB base → FnG P w K mg base cx k fa fd [x] sp) (bind : ∀ (s : Shared) (u : Value), BindsTo s fd ⟨[u], []⟩ [(x, u)])
    (wish : ∀ H : Hp, Only H → SqL K H a (ns.map V.int) → sp [.ref a] H (fun v _ => v = .bl true) fun _ _ _ => False) (hcx : ∀ H e s', cx [] H s1 (fun _ _ _ => False) e s' → False) :
    codeAny (model P w) callerA (.call (.ref fa) ⟨[.ref a], []⟩) (fun r s' => r = .ok (.ret (.bool true)) ∧ OldK s1.heap s'.heap ∧ s'.os = s1.os ∧ AllBare s'.gens) s1 := by
  have rv := vals_ints hi
  have many : vs.length = ns.length := hi.length
  cases lk : K.lookup a with
  | some o =>
    have there := KX a o lk
    rw [ha] at there
    cases there
    have seq : SqL K (fun _ => none) a (ns.map V.int) := .inr ⟨_, vs.toArray, _, lk, rfl, rfl, rfl, by rw [List.size_toArray, many]; exact hl, by simpa using rv⟩
    have none_ : Only (fun _ => none) := fun _ => .inl rfl
    exact law_from (H := fun _ => none) KX hns hb hbb hlim hsy hg ha hr F bind (wish _ none_ seq) (hcx _) none_ (fun b u z => by cases (show (none : Option HO) = some u from z)) fun b z => absurd rfl z
  | none =>
    have here : ∀ b, (fun b => if b = a then some (HO.frz { cls := .type "list", data := .seq vs.toArray } (.lst (ns.map V.int))) else none) b ≠ none → b = a := fun b z => by
      by_cases e : b = a
      · exact e
      · exact absurd (if_neg e) z
    have one : Only (fun b => if b = a then some (HO.frz { cls := .type "list", data := .seq vs.toArray } (.lst (ns.map V.int))) else none) := fun b => by
      by_cases e : b = a
      · exact .inr ⟨_, _, if_pos e⟩
      · exact .inl (if_neg e)
    refine law_from (H := fun b => if b = a then some (HO.frz { cls := .type "list", data := .seq vs.toArray } (.lst (ns.map V.int))) else none) KX hns hb hbb hlim hsy hg ha hr F bind
      (wish _ one (.inl (.inr ⟨_, if_pos rfl⟩))) (hcx _) one (fun b u z => ?_) fun b z => ?_
    · have e : b = a := here b (by rw [z]; simp)
      subst e
      have z2 := (if_pos rfl).symm.trans z
      cases z2
      exact ⟨ha, by rw [List.length_map]; exact hl, vs, _, rv, ha⟩
    · have e := here b z
      exact ⟨e, by rw [e]; exact lk⟩
end

/-- the goal that the head leaves, from such a promise -/
theorem walk_quiet {l : OpenLaw} {n k : Nat} {q : Program} {loose : List PySem.Str} {XP : (PySem.Str → Option Value) → Heap → Prop} {YP : World → Heap → Prop} {d : DefRec} {K : Params → Frag} {cx : World → CXT} {sp : World → Sp} {x : PySem.Str}
    (seer : PyProof.Rows.importsNone q = true) (most : l.most = some n) (small : n ≤ sizeLine) (nodef : d.params.defaults = []) (room : Room k callerA) (hY : ∀ (w : World) (h : Heap), YP w h → (K w.params).In h)
    (F : ∀ (w : World) (mg : PySem.Str → Option Value) (fa : Addr) (h : Heap), (K w.params).In h → h.Ns mainGlobals mg → mg d.name = some (.ref fa) →
      ∃ fd : FuncData, (∀ (s : Shared) (u : Value), BindsTo s fd ⟨[u], []⟩ [(x, u)]) ∧ ∀ base : Heap, (K w.params).In base → base.Ns mainGlobals mg → SysB base → FnG l.prog w (K w.params) mg base (cx w) k fa fd [x] (sp w))
    (wish : ∀ (w : World) (H : Hp) (a : Addr) (ns : List Int), ns.length ≤ n → Only H → SqL (K w.params) H a (ns.map V.int) → sp w [.ref a] H (fun v _ => v = .bl true) fun _ _ _ => False)
    (hcx : ∀ (w : World) (H : Hp) (s : Shared) (e : Value) (s' : Shared), cx w [] H s (fun _ _ _ => False) e s' → False) :
    WalkO q loose XP YP l.row.toRowW d [] (fun f vs => PySem.call f vs) := by
  refine Att.attach_call most nodef fun w s0 s1 mg mb fa o pm cd doc a vs ns G Y _ _ _ name obj ints_ len gens => ?_
  have kin := hY w _ Y
  obtain ⟨fd, bind, promise⟩ := F w mg fa _ kin G.T.g name
  exact law_quiet kin G.T.g G.T.b G.T.builtins G.T.nolimit (let ⟨mm, z, _⟩ := (G.T.seer seer).mods; ⟨mm, z⟩) gens obj ints_ (Nat.le_trans len small) room promise bind (fun H one seq => wish w H a ns len one seq) fun H e s' => hcx w H s1 e s'
end SmA

/-! An exception that an except suite keeps in a name, read behind the try. -/
namespace SmA
open PySem PySem.W PySem.Calls PyProof.Rows L2

/-- the exception at a: its class, its own dict -/
def ExT (a : Addr) (cls : Value) (d : Option Addr) : HO := .ext fun h => ∃ oe vs, h.get? a = some oe ∧ Zc cls d oe ∧ oe.data = .fields vs

section
variable {X : Cx} {pins : List (Addr × Obj)} {σ : L2.St} {H : Hp} {s : Shared}
theorem ext_ok {H : Hp} {h : Heap} {a : Addr} {oe : Obj} {vs : Array Value} {cls : Value} {d : Option Addr} (ha : h.get? a = some oe) (hz : Zc cls d oe) (hd : oe.data = .fields vs) : ObjOk X.prog X.w H h a (ExT a cls d) :=
  ⟨⟨oe, vs, ha, hz, hd⟩, ⟨oe, ha⟩, fun _ _ ⟨o, v, h1, h2, h3⟩ k => ⟨o, v, k o h1, h2, h3⟩⟩

/-- an object that stood untracked, younger than the def's entry, is tracked from now on -/
theorem track {a : Addr} {o : HO} (I : Inv X pins σ H s) (young : X.s_0.heap.get? a = none) (free : H a = none) (nL : a ≠ X.env.locals) (nC : ∀ x c, X.env.cells.lookup x = some c → c ≠ a)
    (np : ∀ p ∈ X.pn ++ pins, p.1 ≠ a) (ok : ObjOk X.prog X.w (upd H a o) s.heap a o) : Inv X pins σ (upd H a o) s := by
  have far : ∀ {b : Addr} {u : HO}, H b = some u → b ≠ a := fun q e => by rw [e, free] at q; cases q
  refine ⟨I.ok, I.os, I.bare, ⟨I.base.keep, I.base.slot, fun b ob q n hx => ?_, I.base.there, fun b xs q => ?_, fun b ob u q => ?_, fun b ps q => ?_⟩, I.loc, I.cell, ?_, fun x c q => ?_, fun p hp => ?_, fun b u q => ?_, I.len⟩
  · have : b ≠ a := fun e => by rw [e, young] at q; cases q
    rw [upd_ne this]
    exact I.base.free b ob q n hx
  · have z := I.base.tups b xs q
    rw [upd_ne (far z)]
    exact z
  · have z := I.base.frzs b ob u q
    rw [upd_ne (far z)]
    exact z
  · obtain ⟨more, z⟩ := I.base.tbls b ps q
    exact ⟨more, by rw [upd_ne (far z)]; exact z⟩
  · rw [upd_ne (Ne.symm nL)]
    exact I.free
  · rw [upd_ne (nC x c q)]
    exact I.freeC x c q
  · obtain ⟨z1, z2, z3, z4, z5⟩ := I.pin p hp
    exact ⟨z1, by rw [upd_ne (np p hp)]; exact z2, z3, z4, z5⟩
  · by_cases e : b = a
    · subst e
      rw [upd_same] at q
      cases q
      exact ok
    · rw [upd_ne e] at q
      exact (I.hok b u q).stay (fun _ _ _ z => z) (fun c z => by rw [upd_ne (far z)]; exact z) fun c xs z => by rw [upd_ne (far z)]; exact z
end

/-- what the clause 'except x as n' wishes, the exception tracked behind it -/
def wKeep (K : Frag) (c : Value) (i : Nat) (ts : Addr → Value → Option Addr → TS) (Wout : WX) (D : Ends) : WX := fun cls d σ H =>
  ∃ b, exmOne K cls c = some b ∧ (b = true → ∀ a, H a = none → ts a cls d { nx := fun σ' H' => H' a = none → D.nx (σ'.set i none) (upd H' a (ExT a cls d)), rt := D.rt, bk := fun _ _ => False, ct := fun _ _ => False } (σ.set i (some (.ref a))) H) ∧
    (b = false → Wout cls d σ H)

section
variable {X : Cx} {x n : PySem.Str} {c : Value} {i : Nat} {body suite : List Stmt} {st0 : Stmt} {np pos pos' : Pos} {tb : WX → TS} {ts : Addr → Value → Option Addr → TS} {Wout : WX}
theorem ps_try_keep (hs : X.stack = X.env :: X.outer) (hf : X.env.frame = some X.env.locals) (hN : X.N.Nodup) (hi : X.N[i]? = some n) (hln : X.env.kindOf n = some .local) (hc : Names X x c) (tk : Takes X Wout) (hex : X.ex = [])
    (hb : ∀ (W : WX) (pn : List (Addr × Obj)) (xe : Value → Shared → Prop), Takes (X.tr pn xe) W → PassesOwn (model X.prog X.w) X.A X.env xe → PSs (X.tr pn xe) body (tb W))
    (hsu : ∀ (a : Addr) (oe : Obj) (cls : Value) (d : Option Addr) (pn : List (Addr × Obj)), Zc cls d oe → (∃ vs, oe.data = .fields vs) → PSs (X.suite a ((a, oe) :: pn)) (st0 :: suite) (ts a cls d)) :
    PS X (.Try body [.ExceptHandler (some (.Name x np)) (some n) (st0 :: suite) pos'] [] [] pos) (fun D σ H => tb (wKeep X.K c i ts Wout D) D σ H) := by
  refine ⟨fun pins s σ H D I reads => ?_⟩
  have XO := I.ok
  have frames : X.A.frames = some (X.env :: X.outer) := hs ▸ XO.frames
  refine wpAny_Try_except ?_
  have caught : Takes (X.tr (X.pn ++ pins) fun err s1 => wpAny (model X.prog X.w) X.A (noteFrame err X.env) (fun _ s2 => wpAny (model X.prog X.w) X.A (setFlight err none) (fun _ s3 =>
      wpAny (model X.prog X.w) X.A (handleBy err X.env [.ExceptHandler (some (.Name x np)) (some n) (st0 :: suite) pos']) (SP X pins D) X.xe s3) X.xe s2) X.xe s1) (wKeep X.K c i ts Wout D) := by
    intro u s' air
    obtain ⟨a, B, sI, pins', σ', H', cls, d, rfl, JT, ground, up, sky, unt, os, bare, b, hb1, yes, no⟩ := air
    have J : Inv X pins σ' H' sI := JT.ofTry XO
    have aloft : Sky B (X.env :: X.outer) a (Zc cls d) X.env.locals s'.heap := hs ▸ sky
    show wpAny (model X.prog X.w) X.A (noteFrame (.ref a) X.env) _ _ _
    refine Sky.land Zc.steady frames hf aloft fun h3 fl3 up3 => ?_
    have J3 : Inv X pins σ' H' { s' with heap := h3 } := J.landed ground fl3.1 (up.trans up3) os bare
    obtain ⟨oe3, vs3, he3, hz3, hd3⟩ := fl3.there
    have off : a ∉ frs (X.env :: X.outer) := fun hm => by
      obtain ⟨_, o2, e2, nf⟩ := fl3.2.2.1.mem hm
      rw [he3] at e2
      cases e2
      exact nf _ hd3
    have nL : a ≠ X.env.locals := fun z => off (List.mem_filterMap.mpr ⟨X.env, List.mem_cons_self, by rw [hf, z]⟩)
    have nF : a ∉ X.fs := fun hm => by
      obtain ⟨env, he, q⟩ := List.mem_filterMap.mp hm
      exact off (List.mem_filterMap.mpr ⟨env, List.mem_cons_of_mem _ he, q⟩)
    have noB : B.get? a = none := fl3.2.1
    have young : X.s_0.heap.get? a = none := by
      cases q : X.s_0.heap.get? a with
      | none => rfl
      | some o =>
        obtain ⟨o2, q2⟩ := J.base.there a o q (by rw [hex]; exact List.not_mem_nil)
        have q3 := ground a o2 q2 (by rw [hs]; exact off)
        rw [noB] at q3
        cases q3
    have pinned : ∀ p ∈ X.pn ++ pins, p.1 ≠ a := fun p hp e => by
      obtain ⟨z1, _, z3, z4, _⟩ := J.pin p hp
      have q3 := ground p.1 p.2 z1 (by rw [hs, e]; exact off)
      rw [e, noB] at q3
      cases q3
    have S3 := J3.suite he3 hd3 unt nL nF
    refine wpAny_handleBy_cons (codeAny_handlers_test ?_) (by intro q; cases q)
    have ty : Looks (model X.prog X.w) h3 (typeOf (.ref a)) cls := fun A Q E s k q => wpAny_typeOf_ref (k _ _ he3) (by rw [hz3.1]; exact q)
    have match_ := exm_one (M := model X.prog X.w) J3.kIn ty hb1
    have clause : ∀ {Q : Value → Shared → Prop} {E : Value → Shared → Prop}, Q c { s' with heap := h3 } → wpAny (model X.prog X.w) (X.A.mark (some (.ref a))) (eval (.Name x np) X.env) Q E { s' with heap := h3 } := by
      intro Q E q
      obtain ⟨g, dbg, m⟩ := hc
      rcases m with m | ⟨m, v, nn⟩
      · exact ld_glob (X := X.suite a ((a, oe3) :: (X.pn ++ pins))) S3 g m q dbg
      · exact ld_blt (X := X.suite a ((a, oe3) :: (X.pn ++ pins))) S3 g m v q nn dbg
    refine clause (match_.here ?_)
    cases b with
    | false =>
      show wpAny _ X.A (handleBy (.ref a) X.env []) _ _ _
      refine wpAny_handleBy_nil ?_
      obtain ⟨k1, k2, k3, oe, vs, T, oT, ts', he, hz, hd, h1, hr⟩ := id fl3
      unfold PySem.passOn
      refine wpAny_bind (wpAny_field he hd h1 ?_)
      rw [if_neg (show ¬ ((Value.ref T == Value.none) = true) from by simp)]
      have on : wpAny (model X.prog X.w) X.A (setFlight (.ref a) X.env.frame) (fun _ s4 => wpAny (model X.prog X.w) X.A (throw (.ref a) : Sem Flow) (SP X pins D) X.xe s4) X.xe { s' with heap := h3 } := by
        rw [hf]
        refine HandSPX.setFlight_upZ fl3 fun h4 hh4 up4 => wpAny_throw (tk _ _ ?_)
        exact ⟨a, B, sI, pins', σ', H', cls, d, rfl, ⟨XO, JT.os, JT.bare, JT.base, JT.loc, JT.cell, JT.free, JT.freeC, fun p hp => JT.pin p (List.mem_append.mpr ((List.mem_append.mp hp).imp (fun z => List.mem_append_left _ z) id)), JT.hok, JT.len⟩, ground, (up.trans up3).trans up4, .inr (.inr (by rw [hs]; exact hh4)), unt, os, bare, no rfl⟩
      first
        | exact wpAny_bind (wpAny_pure (wpAny_bind on))
        | exact wpAny_bind on
    | true =>
      refine codeAny_handlers_suite_as ?_
      refine HandSPX.lands_againZ fl3 fun h4 fl4 up4 => ?_
      have J4 : Inv X pins σ' H' { s' with heap := h4 } := J.landed ground fl4.1 ((up.trans up3).trans up4) os bare
      obtain ⟨oe4, vs4, he4, hz4, hd4⟩ := fl4.there
      have S4 := J4.suite he4 hd4 unt nL nF
      refine store_ok (X := X.suite a ((a, oe4) :: (X.pn ++ pins))) (v := .ref a) S4 hN hi (.inl hln) rfl (fun s5 S5 => ?_) (.inr hln)
      refine wpAny_mono ((hsu a oe4 cls d (X.pn ++ pins) hz4 ⟨_, hd4⟩).run [] s5 _ H' _ S5 (yes rfl a unt)) (fun flow s6 done => ?_) (fun _ _ z => False.elim z)
      match flow, done with
      | .brk, done =>
        obtain ⟨_, _, _, no_⟩ := done
        exact no_.elim
      | .cont, done =>
        obtain ⟨_, _, _, no_⟩ := done
        exact no_.elim
      | .ret u, done =>
        obtain ⟨v6, σ6, H6, S6, r6, q6⟩ := done
        exact gone_ok (Q := fun _ s7 => SP X pins D (.ret u) s7) (S6.unsuite XO) hN hi hln fun s7 J7 => ⟨_, _, _, J7, r6, q6⟩
      | .next, done =>
        obtain ⟨σ6, H6, S6, q6⟩ := done
        obtain ⟨p1, p2, p3, p4, p5⟩ := S6.pin (a, oe4) (List.mem_append_left _ List.mem_cons_self)
        have S7 : Inv X ((a, oe4) :: pins) σ6 H6 s6 := by
          have U := S6.unsuite XO
          refine ⟨XO, U.os, U.bare, U.base, U.loc, U.cell, U.free, U.freeC, fun p hp => ?_, U.hok, U.len⟩
          rcases List.mem_append.mp hp with z | z
          · exact U.pin p (List.mem_append_left _ z)
          · rcases List.mem_cons.mp z with z | z
            · rw [z]
              exact ⟨p1, p2, p3, p4, p5⟩
            · exact U.pin p (List.mem_append_right _ z)
        refine gone_ok (Q := fun _ s7 => SP X pins D .next s7) S7 hN hi hln fun s7 J7 => ?_
        obtain ⟨a1, a2, a3, a4, a5⟩ := J7.pin (a, oe4) (List.mem_append_right _ List.mem_cons_self)
        have J8 : Inv X pins (σ6.set i none) H6 s7 := J7.pins_of (pins' := pins) fun p hp => J7.pin p (List.mem_append_right _ (List.mem_cons_of_mem _ hp))
        refine ⟨_, _, track J8 young a2 nL (fun y cc q e => ?_) pinned (ext_ok a1 hz4 hd4), q6 a2⟩
        obtain ⟨v, oc, oc1, oc2⟩ := J8.cell y cc q
        rw [e, a1] at oc1
        cases oc1
        rw [hd4] at oc2
        cases oc2
  refine wpAny_mono ((hb (wKeep X.K c i ts Wout D) (X.pn ++ pins) _ caught PassesOwn.looking).run [] s σ H D (I.toTry _) reads) (fun flow s1 done => ?_) fun _ _ z => z
  match flow, done with
  | .next, done =>
    obtain ⟨σ1, H1, J1, q⟩ := done
    exact wpAny_execs_nil ⟨σ1, H1, J1.ofTry XO, q⟩
  | .brk, done =>
    obtain ⟨σ1, H1, J1, q⟩ := done
    exact ⟨σ1, H1, J1.ofTry XO, q⟩
  | .cont, done =>
    obtain ⟨σ1, H1, J1, q⟩ := done
    exact ⟨σ1, H1, J1.ofTry XO, q⟩
  | .ret u, done =>
    obtain ⟨v, σ1, H1, J1, r, q⟩ := done
    exact ⟨v, σ1, H1, J1.ofTry XO, r, q⟩
end
/-! ### a kept exception's field, its class -/
section
variable {X : Cx}
/-- x.n, x a name of an exception of the class at C -/
def tXt (C : Addr) (n : PySem.Str) (te : TE) : TE := fun σ H Q => te σ H fun x H1 => ∃ (a dd : Addr) (fs : List (PySem.Str × V)) (v : V), x = .ref a ∧ H1 a = some (ExT a (.ref C) (some dd)) ∧ H1 dd = some (.xd fs) ∧ fs.lookup n = some v ∧ Q v H1
theorem kept_inst {pins : List (Addr × Obj)} {σ : L2.St} {H : Hp} {s : Shared} {a C dd : Addr} {fs : List (PySem.Str × V)} (I : Inv X pins σ H s) (h1 : H a = some (ExT a (.ref C) (some dd))) (h2 : H dd = some (.xd fs)) :
    ∃ (oe od : Obj) (mA : PySem.Str → Option Value), InstAt s.heap a oe C (some od) ∧ (∀ y, lookIn y od = some (mA y)) ∧ ∀ y, RelO (fs.lookup y) (mA y) := by
  obtain ⟨⟨oe, vs, ha, hz, hd⟩, _⟩ := I.hok a _ h1
  obtain ⟨mA, hns, hr⟩ := I.hok dd _ h2
  obtain ⟨od, ho, hl⟩ := lookIn_ns hns
  exact ⟨oe, od, mA, ⟨ha, hz.1, by unfold notCls; rw [hd] <;> rfl, by rw [hz.2]; exact ho⟩, hl, hr⟩
theorem pe_xt {C : Addr} {e : Expr} {te : TE} {pos : Pos} {n : PySem.Str} (T : XfC X.K C) (no : findIn X.K (.ref C) n = some none) (he : PE X e te) (hb : attributeBase e n X.env (eval e X.env) = eval e X.env := by rfl) :
    PE X (.Attribute e n pos) (tXt C n te) := by
  refine ⟨fun pins s σ H Q I h => attr_of hb (thn (he.run pins s σ H _ I h) fun u s1 done => ?_)⟩
  obtain ⟨x, H1, I1, rx, a, dd, fs, v, rfl, h1, h2, l, q⟩ := done
  obtain rfl : u = Value.ref a := rx
  obtain ⟨oe, od, mA, J, hl, hr⟩ := kept_inst I1 h1 h2
  obtain ⟨u2, hu, ru⟩ := RelO.some_of (v := v) (o := mA n) (by rw [← l]; exact hr n)
  exact HandSPX.exc_get I1.kIn J T.ga T.gg T.exC (findObj_own T.hdC no rfl (by rw [hl, hu])) (handed_of ru) ⟨v, H1, I1.tok _, ru, q⟩
/-- isinstance(x, c), x such an exception -/
def rIsX (K : Frag) (D : Addr) : List V → Hp → VK → Prop := fun xs H Q => ∃ (a dd : Addr) (fs : List (PySem.Str × V)) (c : V) (cv : Value) (b : Bool), xs = [.ref a, c] ∧ H a = some (ExT a (.ref D) (some dd)) ∧ H dd = some (.xd fs) ∧
  (∀ u, RelV c u → u = cv) ∧ kitOne K (.ref D) cv = some b ∧ Q (.bl b) H
theorem call_isX {D : Addr} (C : ExcC X.K D) : CallR X (.builtin "isinstance") (rIsX X.K D) := by
  intro pins s σ H xs us Q I r h
  obtain ⟨a, dd, fs, c, cv, b, rfl, h1, h2, hcv, e, q⟩ := h
  cases r with
  | cons rx rr =>
    cases rr with
    | cons rt rr =>
      cases rr
      cases rx
      have ec := hcv _ rt
      subst ec
      obtain ⟨oe, od, mA, J, hl, hr⟩ := kept_inst I h1 h2
      obtain ⟨cd, hc, _⟩ := any_some C.hd
      have hc2 : (clsIn X.K D).isSome = true := by rw [hc] <;> rfl
      exact kia_one (kitx_exc hc2 C.hg C.hk C.hs C.ha C.hn C.ht C.hm) I.kIn J e (fun z => nomatch z) fun tk => ⟨.bl b, H, I.kept (t' := tk) fun _ _ z => z, rfl, q⟩
end
end SmA

/-! The error ParseError with its value: made, raised (the block of skel/42_own_error_by_import, turned to this class). -/
namespace PySem
namespace PeX
open PySem.W PySem.Calls PyProof.Rows PySem.HandSPX
/-! ### the text of __init__ -/
def iA (p1 p2 : Pos) : Arguments := { posonlyargs := [], args := [{ arg := "self", annotation := none, pos := p1 }, { arg := "value", annotation := none, pos := p2 }], vararg := none, kwonlyargs := [], kw_defaults := [], kwarg := none, defaults := [] }
def iB (q1 q2 q3 q4 : Pos) : List Stmt := [.Assign [.Attribute (.Name "self" q1) "value" q2] (.Name "value" q3) q4]
def iS : Scope := { kind := .function, names := [(PySem.Str.ofString "self", .local), (PySem.Str.ofString "value", .local)], isGenerator := false, isCoroutine := false, more := [] }
/-- what the written part says of Low, at C, and of its __init__, at fI -/
structure PeTxt (K : Frag) (mg : Str → Option Value) (C fI : Addr) : Prop where
  gC : mg "ParseError" = some (.ref C)
  cls : ∃ nm q N bs bm sn sub ab col dd k0 k1 k2 k3 k5, K.lookup C = some (excClassObj nm q C N bs bm true sn sub ab col dd k0 k1 k2 k3 k5 "ValueError.__new__") ∧ refsVE bm = true
  sa : findIn K (.ref C) "__setattr__" = some (some (.builtin "object.__setattr__"))
  ga : findIn K (.ref C) "__getattribute__" = some (some (.builtin "BaseException.__getattribute__"))
  gg : findIn K (.ref C) "__getattr__" = some none
  noN : findIn K (.ref C) "value" = some none
  iC : findIn K (.ref C) "__init__" = some (some (.ref fI))
  tC : typeIn K (.ref fI) = some (.type "function")
  kC : keepIn K (.ref C) = true
  exC : subIn K (.ref C) (.type "BaseException") = some true
  tyC : typeIn K (.ref C) = some (.type "type")
  hdC : hasDictIn K C = true
  te : exmOne K (.ref C) (.ref C) = some true
  fn : ∃ (oc : Value) (od : Option Addr) (doc pm : Value) (an : Option Addr) (cdv ct : Value) (osl : Array (Option Value)) (p1 p2 q1 q2 q3 q4 : Pos),
    K.lookup fI = some ⟨oc, od, .func (fnOf "__init__" "ParseError.__init__" (iA p1 p2) (iB q1 q2 q3 q4) iS .none .none doc pm an cdv ct), osl⟩ ∧ codeIn K cdv "ParseError.__init__" = true
theorem one_size (v : Value) : [v].length ≤ sizeLine := by
  rw [sizeLine_eq]
  exact (by decide : 1 ≤ 16777216)
theorem kept_but {K : Frag} {h h' : Heap} {x : Addr} (X : K.In h) (hx : K.lookup x = none) (k : ∀ b o, b ≠ x → h.get? b = some o → h'.get? b = some o) : K.In h' := fun a o e =>
  k a o (fun z => by rw [z, hx] at e; cases e) (X a o e)
theorem ldC {M : Model} {s : Shared} {name : Str} {scope : Scope} {L a : Addr} {cd : Value} {m : Str → Option Value} {x : Str} {pos : Pos} {v : Value} {Q : Value → Shared → Prop} {A : Around} {E : Value → Shared → Prop} (hn : s.heap.Ns L m) (hv : m x = some v) (h : Q v s)
    (hk : scope.kind = .function := by rfl) (hl : (envOfC name scope L a cd).kindOf x = some .local := by rfl) (hd : (x == ("__debug__" : Str)) = false := by decide) :
    wpAny M A (eval (.Name x pos) (envOfC name scope L a cd)) Q E s := wpAny_Name (wpAny_loadName_local hk hl hn hv h) hd
/-- what __init__ leaves of a fresh exception at x -/
structure InitEnd (h h' : Heap) (x C dx t1 : Addr) (v : Value) : Prop where
  keep : ∀ b o, b ≠ x → h.get? b = some o → h'.get? b = some o
  obj : h'.get? x = some { cls := .ref C, dict := some dx, data := .fields #[.ref t1, .none, .none, .none, .bool false, .none] }
  dbig : h.objs.size ≤ dx
  dne : dx ≠ x
  ns : h'.Ns1 dx (fun y => if y = "value" then some v else none)
/-- a made Low -/
structure OwnMade (h h' : Heap) (e C d : Addr) (v : Value) : Prop where
  keep : ∀ b o, h.get? b = some o → h'.get? b = some o
  new : h.objs.size ≤ e
  obj : ∃ oe vs, h'.get? e = some oe ∧ oe.cls = .ref C ∧ oe.dict = some d ∧ oe.data = .fields vs ∧ vs[1]? = some .none
  dbig : h.objs.size ≤ d
  dne : d ≠ e
  ns : h'.Ns1 d (fun y => if y = "value" then some v else none)
section
variable {prog : Program} {w : World} {A : Around} {E : Value → Shared → Prop} {R : Result → Shared → Prop} {s : Shared} {K : Frag} {mg : Str → Option Value} {C fI : Addr}
theorem pe_init (T : PeTxt K mg C fI) {x t0 : Addr} {v : Value} (X : K.In s.heap) (hlim : s.heap.NoLimit) (hx : s.heap.get? x = some (excO C t0)) (hnx : K.lookup x = none) (hroom : A.depth < recursionLimit)
    (hq : ∀ h' tk dx, InitEnd s.heap h' x C dx t0 v → R (.ok (.ret .none)) { s with heap := h', toks := tk }) :
    codeAny (model prog w) A (.call (.ref fI) ⟨[.ref x, v], []⟩) R s := by
  obtain ⟨oc, od, doc, pm, an, cdv, ct, osl, p1, p2, q1, q2, q3, q4, ho, hcd⟩ := T.fn
  obtain ⟨nm, q, N, bs, bm, sn, sub, ab, col, dd, k0, k1, k2, k3, k5, hC, hbm⟩ := T.cls
  have hcl : clsIn K C = some { name := nm, bases := bs, mro := .ref C :: bm, ns := N, qualname := q, hasDict := true, slotNames := sn, subclasses := sub, abstract := ab, collection := col, hasDel := false } := by unfold clsIn; rw [hC] <;> rfl
  refine Att.call_fn (binds := [("self", .ref x), ("value", v)]) X hlim ho hcd hroom (BindsTo.of_eq (by first | rfl | with_unfolding_all rfl)) (by first | rfl | decide | with_unfolding_all rfl) (fun s₁ IC => ?_) rfl rfl rfl
  obtain ⟨h₁, tk₁, rfl⟩ := IC.toInCall.same
  have k : ∀ b o, s.heap.get? b = some o → h₁.get? b = some o := IC.toInCall.keep
  have hn := IC.toInCall.ns
  have hxL : s.heap.objs.size ≠ x := Nat.ne_of_gt (Heap.lt_size hx)
  have X₁ : K.In h₁ := X.keeps k
  have hx₁ := k _ _ hx
  show wpAny _ _ (execs _ _) _ _ _
  refine wpAny_execs_cons (plainObj_wpAny_Assign_Attribute ?_)
  refine ldC (v := v) hn (by first | rfl | with_unfolding_all rfl | kernel_rfl) (ldC (v := .ref x) hn (by first | rfl | with_unfolding_all rfl | kernel_rfl) ?_)
  refine set_plain X₁ (ox := excO C t0) (od := none) ⟨hx₁, rfl, rfl, trivial⟩ T.sa ?_
  refine exc_osa X₁ hx₁ hcl (show refsVE (.ref C :: bm) = true from hbm) rfl T.noN (fun h₃ tk₃ dx k₃ dn dne hx₃ hn₃ => ?_)
  show wpAny _ _ (execs _ _) _ _ _
  have z : s.heap.objs.size < h₁.objs.size := hn.lt
  exact wpAny_execs_nil (hq h₃ tk₃ dx ⟨fun b o hb e => k₃ b o hb (k b o e), hx₃, Nat.le_of_lt (Nat.lt_of_lt_of_le z dn), dne, hn₃⟩)
theorem pe_made (T : PeTxt K mg C fI) {v : Value} (X : K.In s.heap) (hlim : s.heap.NoLimit) (hroom : A.depth + 1 < recursionLimit)
    (hq : ∀ h' tk e d, OwnMade s.heap h' e C d v → R (.ok (.ret (.ref e))) { s with heap := h', toks := tk }) :
    codeAny (model prog w) A (.call (.ref C) ⟨[v], []⟩) R s := by
  obtain ⟨nm, q, N, bs, bm, sn, sub, ab, col, dd, k0, k1, k2, k3, k5, hC, hbm⟩ := T.cls
  obtain ⟨hp, g, dr, tk, os⟩ := s
  have k : ∀ b o, hp.get? b = some o → ((hp.push (kdv_tup [v])).push (excO C hp.objs.size)).get? b = some o := fun b o e => Heap.get?_push_of_some _ (Heap.get?_push_of_some _ e)
  have hget : ((hp.push (kdv_tup [v])).push (excO C hp.objs.size)).get? (hp.objs.size + 1) = some (excO C hp.objs.size) := by heap_get
  have hnx : K.lookup (hp.objs.size + 1) = none := by
    cases e : K.lookup (hp.objs.size + 1) with
    | none => rfl
    | some o =>
      have z : hp.get? (hp.objs.size + 1) = some o := X _ _ e
      exact absurd (Nat.lt_of_succ_lt (Heap.lt_size z)) (Nat.lt_irrefl _)
  refine call_own F.excBase_ValueError (fun X => refsVE_contains X bm hbm) (X _ _ hC) (looks_findIn X T.iC) (fun self => bind_fn X self T.tC) (one_size v) ?_
  refine pe_init (s := ⟨(hp.push (kdv_tup [v])).push (excO C hp.objs.size), g, dr, tk, os⟩) T (X.keeps k) (hlim.keeps k) hget hnx ?_ fun h' tk' dx ⟨k', hx, dn, dne, hns⟩ => ?_
  · show A.depth + 1 < recursionLimit
    exact hroom
  · have old : ∀ b o, hp.get? b = some o → h'.get? b = some o := fun b o e => k' b o (Nat.ne_of_lt (Nat.lt_succ_of_lt (Heap.lt_size e))) (k b o e)
    have z : hp.objs.size + 1 + 1 ≤ dx := by
      first
        | (simpa only [Heap.size_push] using dn)
        | exact dn
        | (have q := dn; rw [Heap.size_push, Heap.size_push] at q; exact q)
    exact ⟨rfl, hq h' tk' (hp.objs.size + 1) dx ⟨old, Nat.le_succ _, ⟨_, _, hx, rfl, rfl, rfl, rfl⟩, Nat.le_trans (Nat.le_trans (Nat.le_succ _) (Nat.le_succ _)) z, dne, hns⟩⟩
end
end PeX
end PySem
namespace L2
open PySem PySem.Spec PyProof.Rows
theorem relO_pe {v : V} {v' : Value} (r : RelV v v') (f : Str) : RelO (List.lookup f [(("value" : Str), v)]) (if f = "value" then some v' else none) := by
  by_cases hw : f = "value"
  · subst hw
    rw [if_pos rfl]
    have q : List.lookup ("value" : Str) [(("value" : Str), v)] = some v := by simp [List.lookup]
    rw [q]
    exact r
  · rw [if_neg hw]
    have qw : (f == ("value" : Str)) = false := by simpa using hw
    have q2 : List.lookup f [(("value" : Str), v)] = none := by simp [List.lookup, qw]
    rw [q2]
    trivial
section
variable {X : Cx} {C fI : Addr}
/-- Low(e) -/
def tMkPe (C : Addr) (ta : TA) : St → Hp → XK → Prop := fun σ H Q => ta σ H fun vs H1 => ∃ v, vs = [v] ∧ ∀ d, H1 d = none → Q (.ref C) (some d) (upd H1 d (.xd [(("value" : Str), v)]))
theorem pmk_pe {a : Expr} {ta : TA} {p pos : Pos} {k : Nat} (T : PySem.PeX.PeTxt X.K X.mg C fI) (hr : Room k X.A) (ha : PA X [a] ta) (hg : Gl X "ParseError" := by rfl)
    (he : starEach (a :: []) X.env = (false, eval a X.env) :: starEach [] X.env := by rfl) (hpl : (backTo pos (starEach [] X.env)).any (·.1) = false := by rfl) :
    PMk X (.Call (.Name "ParseError" p) [a] [] pos) (tMkPe C ta) := by
  intro pins s σ H Q I h
  refine wpAny_Call_Name_kw (ld_glob I hg T.gC ?_)
  refine PySem.W.callWith_K (h₀ := X.base) I.ok.mod.kin T.kC (thn (ha.run pos pins s σ H _ I h) fun us s1 hh => ?_) he hpl
  obtain ⟨vs, H1, I1, r1, v, ev, q1⟩ := hh
  subst ev
  refine ⟨I1.kIn, ?_⟩
  cases r1 with
  | cons rv rn =>
    rename_i v' us'
    cases rn
    show wpAny _ _ (call (.ref C) [v']) _ _ _
    have hlim := I1.nolimit
    obtain ⟨hp, g, dr, tk, os⟩ := s1
    refine wpAny_call (PySem.PeX.pe_made T I1.kIn hlim (by have := hr.dp; omega) fun h' tk' e d M => ?_)
    show MkP X pins σ Q (.ref e) ⟨h', g, dr, tk', os⟩
    obtain ⟨oe, fv, hoe, hc, hd, hdat, h1⟩ := M.obj
    have hns := M.ns
    obtain ⟨G', g1, g2⟩ := restrict h' fun b => decide (b ≠ e)
    have gk : ∀ b, b ≠ e → G'.get? b = h'.get? b := fun b hb => g1 b (decide_eq_true hb)
    have ge : G'.get? e = none := g2 e (by simp)
    have old : ∀ b o, hp.get? b = some o → G'.get? b = some o := fun b o q => (gk b (Nat.ne_of_lt (Nat.lt_of_lt_of_le (Heap.lt_size q) M.new))).trans (M.keep b o q)
    have ob : ObjOk X.prog X.w (upd H1 d (.xd [(("value" : Str), v)])) G' d (.xd [(("value" : Str), v)]) :=
      ⟨_, hns.at (fun o q => (gk d M.dne).trans q), fun f => relO_pe rv f⟩
    have J : Inv X pins σ (upd H1 d (.xd [(("value" : Str), v)])) ⟨G', g, dr, tk', os⟩ := I1.laid (t' := tk') old M.dbig ob
    refine ⟨e, oe, fv, ⟨G', g, dr, tk', os⟩, _, .ref C, some d, rfl, J, fun b o q => ?_, ge, hoe, ⟨hc, hd⟩, hdat, h1, ?_, rfl, I1.bare, raises_own T.exC T.tyC, q1 d (I1.hok.fresh M.dbig)⟩
    · by_cases hb : b = e
      · have q' : G'.get? b = some o := q
        rw [hb, ge] at q'; cases q'
      · exact (gk b hb).symm.trans q
    · rw [upd_ne (Ne.symm M.dne)]
      exact I1.hok.fresh M.new
/-- raise Low(e) -/
def tRaisePe (C : Addr) (W : WX) (ta : TA) : TS := fun _ σ H => tMkPe C ta σ H fun cls d H' => W cls d σ H'
theorem ps_raisePe {a : Expr} {ta : TA} {W : WX} {p pos pos2 : Pos} {k : Nat} (hc : X.calm = true) (T : PySem.PeX.PeTxt X.K X.mg C fI) (hr : Room k X.A) (tk : Takes X W) (ha : PA X [a] ta) (hg : Gl X "ParseError" := by rfl)
    (he : starEach (a :: []) X.env = (false, eval a X.env) :: starEach [] X.env := by rfl) (hpl : (backTo pos (starEach [] X.env)).any (·.1) = false := by rfl) :
    PS X (.Raise (some (.Call (.Name "ParseError" p) [a] [] pos)) none pos2) (tRaisePe C W ta) := ps_raise hc tk (pmk_pe T hr ha hg he hpl)
/-- low.by, low the exception that the suite holds (at a; its class cls, its dict d) -/
def tByPe (C : Addr) (a : Addr) (cls : Value) (d : Option Addr) (te : TE) : TE := fun σ H Q => te σ H fun x H1 => x = .ref a ∧ cls = .ref C ∧ ∃ (dd : Addr) (v : V), d = some dd ∧ H1 dd = some (.xd [(("value" : Str), v)]) ∧ Q v H1
theorem pe_byPe {a : Addr} {oe : Obj} {cls : Value} {d : Option Addr} {pn : List (Addr × Obj)} {e : Expr} {te : TE} {pos : Pos} (T : PySem.PeX.PeTxt X.K X.mg C fI) (hz : Zc cls d oe) (hf : ∃ vs, oe.data = .fields vs) (he : PE (X.suite a ((a, oe) :: pn)) e te)
    (hb : attributeBase e "value" X.env (eval e X.env) = eval e X.env := by rfl) :
    PE (X.suite a ((a, oe) :: pn)) (.Attribute e "value" pos) (tByPe C a cls d te) := by
  refine ⟨fun pins s σ H Q I h => ?_⟩
  refine attr_of hb (thn (he.run pins s σ H _ I h) fun u s1 hh => ?_)
  obtain ⟨x, H1, I1, rx, ex, ec, dd, v, ed, ea, q⟩ := hh
  subst ex
  obtain rfl : u = Value.ref a := rx
  subst ec
  subst ed
  obtain ⟨ha, _⟩ := I1.pin (a, oe) (List.mem_append_left _ List.mem_cons_self)
  obtain ⟨vs, hd⟩ := hf
  have hx : ObjOk X.prog X.w H1 s1.heap dd (.xd [(("value" : Str), v)]) := I1.hok dd _ ea
  obtain ⟨mA, hns, hr⟩ := hx
  obtain ⟨od, ho, hl⟩ := lookIn_ns hns
  have l : List.lookup ("value" : Str) [(("value" : Str), v)] = some v := by simp [List.lookup]
  obtain ⟨u, hu, ru⟩ := RelO.some_of (v := v) (o := mA "value") (by rw [← l]; exact hr "value")
  have J : PySem.W.InstAt s1.heap a oe C (some od) := ⟨ha, hz.1, by unfold PySem.W.notCls; rw [hd] <;> rfl, by rw [hz.2]; exact ho⟩
  exact HandSPX.exc_get I1.kIn J T.ga T.gg T.exC (PySem.W.findObj_own T.hdC T.noN rfl (by rw [hl, hu])) (handed_of ru) ⟨v, H1, I1.tok _, ru, q⟩
end
end L2

/-! Defs by their names; the pen of the laws: an invariant, no more. -/
namespace SmA
open PySem PySem.W PySem.Calls PyProof.Rows L2

/-- a def of the text as it stands behind the top, its address -/
structure At (K : Frag) (mg : PySem.Str → Option Value) (x : PySem.Str) (st : Stmt) (ps : List PySem.Str) (f : Addr) : Prop where
  ex : ∃ fd : FuncData, Fun K x x st f fd ∧ mg x = some (.ref f) ∧ Binds K fd ps []
/-- a def that may be called by its name -/
structure Df (P : Program) (w : World) (K : Frag) (mg : PySem.Str → Option Value) (base : Heap) (cx : CXT) (k : Nat) (x : PySem.Str) (f : Addr) (sp : Sp) : Prop where
  ex : ∃ (fd : FuncData) (ps : List PySem.Str), FnOk P w K mg base cx k f fd ps sp ∧ mg x = some (.ref f) ∧ keepIn K (.ref f) = true ∧ Binds K fd ps []
/-- .. where nothing is being shown -/
structure DfG (P : Program) (w : World) (K : Frag) (mg : PySem.Str → Option Value) (base : Heap) (cx : CXT) (k : Nat) (x : PySem.Str) (f : Addr) (sp : Sp) : Prop where
  ex : ∃ (fd : FuncData) (ps : List PySem.Str), FnG P w K mg base cx k f fd ps sp ∧ mg x = some (.ref f) ∧ keepIn K (.ref f) = true ∧ Binds K fd ps []

section
variable {P : Program} {w : World} {K : Frag} {mg : PySem.Str → Option Value} {base : Heap} {cx : CXT} {x : PySem.Str} {st : Stmt} {ps N : List PySem.Str} {f : Addr} {k : Nat} {sp : Sp}
theorem At.ok (a : At K mg x st ps f) (S : FnScope N ps (defScope st)) (len : ∀ vs H Q E, sp vs H Q E → vs.length = ps.length)
    (body : ∀ (cdv : Value) (A : Around) (out : List Env) (s : Shared) (H : Hp) (vs : List V) (Q : VK) (E : XK), Room k (A.deeper (envOfC x (defScope st) s.heap.objs.size f cdv)) → sp vs H Q E →
      ∃ t, PSs (cxOf CX0 P w K mg base N x (defScope st) f cdv A out s H E).nox (defBody st) t ∧ t { nx := fun _ H' => Q .non H', rt := Q } (start N vs) H) : Df P w K mg base CX0 (k + 1) x f sp := by
  obtain ⟨fd, F, hm, b⟩ := a.ex
  exact ⟨fd, ps, F.ok S len body, hm, F.kp, b⟩
theorem At.okX (a : At K mg x st ps f) (S : FnScope N ps (defScope st)) (len : ∀ vs H Q E, sp vs H Q E → vs.length = ps.length)
    (body : ∀ (cdv : Value) (A : Around) (out : List Env) (s : Shared) (H : Hp) (vs : List V) (Q : VK) (E : XK), Room k (A.deeper (envOfC x (defScope st) s.heap.objs.size f cdv)) → sp vs H Q E →
      ∃ t, PSs (cxOf (L2.CX P w) P w K mg base N x (defScope st) f cdv A out s H E) (defBody st) t ∧ t { nx := fun _ H' => Q .non H', rt := Q } (start N vs) H) : Df P w K mg base (L2.CX P w) (k + 1) x f sp := by
  obtain ⟨fd, F, hm, b⟩ := a.ex
  exact ⟨fd, ps, F.okX S len body, hm, F.kp, b⟩
theorem At.okG (a : At K mg x st ps f) (S : FnScope N ps (defScope st)) (len : ∀ vs H Q E, sp vs H Q E → vs.length = ps.length)
    (body : ∀ (cdv : Value) (A : Around) (out : List Env) (s : Shared) (H : Hp) (vs : List V) (Q : VK) (E : XK), Quiet (A.deeper (envOfC x (defScope st) s.heap.objs.size f cdv)) → Room k (A.deeper (envOfC x (defScope st) s.heap.objs.size f cdv)) → sp vs H Q E →
      ∃ t, PSs (cxOf cx P w K mg base N x (defScope st) f cdv A out s H E) (defBody st) t ∧ t { nx := fun _ H' => Q .non H', rt := Q } (start N vs) H) : DfG P w K mg base cx (k + 1) x f sp := by
  obtain ⟨fd, F, hm, b⟩ := a.ex
  exact ⟨fd, ps, SmA.okG F S len body, hm, F.kp, b⟩
/-- .. that raises nothing -/
theorem At.okQ (a : At K mg x st ps f) (S : FnScope N ps (defScope st)) (len : ∀ vs H Q E, sp vs H Q E → vs.length = ps.length)
    (body : ∀ (cdv : Value) (A : Around) (out : List Env) (s : Shared) (H : Hp) (vs : List V) (Q : VK) (E : XK), Quiet (A.deeper (envOfC x (defScope st) s.heap.objs.size f cdv)) → Room k (A.deeper (envOfC x (defScope st) s.heap.objs.size f cdv)) → sp vs H Q E →
      ∃ t, PSs (cxOf CX0 P w K mg base N x (defScope st) f cdv A out s H E).nox (defBody st) t ∧ t { nx := fun _ H' => Q .non H', rt := Q } (start N vs) H) : DfG P w K mg base CX0 (k + 1) x f sp :=
  a.okG S len fun cdv A out s H vs Q E quiet hr h => by
    obtain ⟨t, d, q⟩ := body cdv A out s H vs Q E quiet hr h
    exact ⟨t, d.nox, q⟩
theorem okQ0 {fd : FuncData} (F : Fun K x x st f fd) (S : FnScope N ps (defScope st)) (len : ∀ vs H Q E, sp vs H Q E → vs.length = ps.length)
    (body : ∀ (cdv : Value) (A : Around) (out : List Env) (s : Shared) (H : Hp) (vs : List V) (Q : VK) (E : XK), Quiet (A.deeper (envOfC x (defScope st) s.heap.objs.size f cdv)) → Room k (A.deeper (envOfC x (defScope st) s.heap.objs.size f cdv)) → sp vs H Q E →
      ∃ t, PSs (cxOf CX0 P w K mg base N x (defScope st) f cdv A out s H E).nox (defBody st) t ∧ t { nx := fun _ H' => Q .non H', rt := Q } (start N vs) H) : FnG P w K mg base CX0 (k + 1) f fd ps sp :=
  SmA.okG F S len fun cdv A out s H vs Q E quiet hr h => by
    obtain ⟨t, d, q⟩ := body cdv A out s H vs Q E quiet hr h
    exact ⟨t, d.nox, q⟩
end

section
variable {X : Cx} {k j : Nat} {f : Addr} {sp : Sp} {x : PySem.Str} {p pos : Pos} {e : Expr} {es : List Expr} {t : TA} {W : WX}
theorem pe_k (c : Df X.prog X.w X.K X.mg X.base CX0 k x f sp) (hr : Room j X.A) (hk : k ≤ j) (hg : Gl X x) (args : PA X (e :: es) t)
    (hdb : (x == ("__debug__" : PySem.Str)) = false := by decide) (star : starEach (e :: es) X.env = (false, eval e X.env) :: starEach es X.env := by rfl) (plain : (backTo pos (starEach es X.env)).any (·.1) = false := by rfl) :
    PE X (.Call (.Name x p) (e :: es) [] pos) (tCallS sp (fun _ => E0) t) := by
  obtain ⟨fd, ps, F, hm, kp, b⟩ := c.ex
  exact pe_g ⟨fd, ps, .inl F, kp, b⟩ (hr.mono hk) hg hm (fun _ _ _ _ _ _ _ h => h.elim) args hdb star plain
theorem pe_kX (c : Df X.prog X.w X.K X.mg X.base (L2.CX X.prog X.w) k x f sp) (hr : Room j X.A) (hk : k ≤ j) (hg : Gl X x) (tk : Takes X W) (args : PA X (e :: es) t)
    (hdb : (x == ("__debug__" : PySem.Str)) = false := by decide) (star : starEach (e :: es) X.env = (false, eval e X.env) :: starEach es X.env := by rfl) (plain : (backTo pos (starEach es X.env)).any (·.1) = false := by rfl) :
    PE X (.Call (.Name x p) (e :: es) [] pos) (tCallS sp (WE W) t) := by
  obtain ⟨fd, ps, F, hm, kp, b⟩ := c.ex
  exact pe_g ⟨fd, ps, .inl F, kp, b⟩ (hr.mono hk) hg hm (fun σ => passAt tk σ) args hdb star plain
theorem pe_kG (c : DfG X.prog X.w X.K X.mg X.base CX0 k x f sp) (quiet : Quiet X.A) (hr : Room j X.A) (hk : k ≤ j) (hg : Gl X x) (args : PA X (e :: es) t)
    (hdb : (x == ("__debug__" : PySem.Str)) = false := by decide) (star : starEach (e :: es) X.env = (false, eval e X.env) :: starEach es X.env := by rfl) (plain : (backTo pos (starEach es X.env)).any (·.1) = false := by rfl) :
    PE X (.Call (.Name x p) (e :: es) [] pos) (tCallS sp (fun _ => E0) t) := by
  obtain ⟨fd, ps, F, hm, kp, b⟩ := c.ex
  exact pe_g ⟨fd, ps, .inr ⟨F, quiet⟩, kp, b⟩ (hr.mono hk) hg hm (fun _ _ _ _ _ _ _ h => h.elim) args hdb star plain
end

/-! ### the pen -/
def penV (c : Addr) (t l : Int) : List (Key × V) := [(.inr "cells", .ref c), (.inr "turn", .int t), (.inr "left", .int l)]
/-- the pen at p, from which at most n digits were drawn -/
def Pen (K : Frag) (H : Hp) (p c : Addr) (n : Nat) : Prop := ∃ (cs : List Int) (t l : Int), H p = some (.dK (penV c t l)) ∧ H c = some (.lst (cs.map V.int)) ∧ cs.length ≤ 63 ∧ 0 ≤ t ∧ t ≤ n ∧ 0 ≤ l
/-- all but what stands at p is kept -/
def Kp (p : Addr) (H H' : Hp) : Prop := ∀ b o, b ≠ p → H b = some o → H' b = some o
theorem Kp.refl (p : Addr) (H : Hp) : Kp p H H := fun _ _ _ h => h
theorem Kp.trans {p : Addr} {H H1 H2 : Hp} (a : Kp p H H1) (b : Kp p H1 H2) : Kp p H H2 := fun c o n h => b c o n (a c o n h)
theorem Kp.put {p : Addr} {H H' : Hp} {o : HO} (a : Kp p H H') : Kp p H (upd H' p o) := fun b u n h => by rw [upd_ne n]; exact a b u n h
theorem Kp.new {p q : Addr} {H H' : Hp} {o : HO} (a : Kp p H H') (h : H' q = none) : Kp p H (upd H' q o) := fun b u n e => by
  rw [upd_ne (ne_of_none (a b u n e) h)]
  exact a b u n e
theorem Kp.of {p : Addr} {H H' : Hp} (a : Same H H') : Kp p H H' := fun b o _ h => a b o h
theorem ct_ : ¬ ((.inr "cells" : Key) = .inr "turn") := by decide +kernel
theorem cl_ : ¬ ((.inr "cells" : Key) = .inr "left") := by decide +kernel
theorem tl_ : ¬ ((.inr "turn" : Key) = .inr "left") := by decide +kernel
theorem penV_cells (c : Addr) (t l : Int) : valV (penV c t l) (.inr "cells") = some (.ref c) := by
  unfold penV
  exact valV_pos rfl
theorem penV_turn (c : Addr) (t l : Int) : valV (penV c t l) (.inr "turn") = some (.int t) := by
  unfold penV
  rw [valV_neg (show ¬ ((Sum.inr _, V.ref c) : Key × V).1 = _ from ct_)]
  exact valV_pos rfl
theorem penV_left (c : Addr) (t l : Int) : valV (penV c t l) (.inr "left") = some (.int l) := by
  unfold penV
  rw [valV_neg (show ¬ ((Sum.inr _, V.ref c) : Key × V).1 = _ from cl_), valV_neg (show ¬ ((Sum.inr _, V.int t) : Key × V).1 = _ from tl_)]
  exact valV_pos rfl
theorem putK_turn (c : Addr) (t l u : Int) : putK (penV c t l) (.inr "turn") (.int u) = penV c u l := by
  unfold putK
  rw [valV_any, penV_turn, Option.isSome_some, if_pos rfl]
  unfold penV
  simp only [List.map_cons, List.map_nil, if_neg ct_, if_neg (Ne.symm tl_), if_true]
theorem putK_left (c : Addr) (t l u : Int) : putK (penV c t l) (.inr "left") (.int u) = penV c t u := by
  unfold putK
  rw [valV_any, penV_left, Option.isSome_some, if_pos rfl]
  unfold penV
  simp only [List.map_cons, List.map_nil, if_neg cl_, if_neg tl_, if_true]

theorem merge_pen (c : Addr) : mergeK [] [((.inr "cells" : Key), V.ref c), (.inr "turn", .int 0), (.inr "left", .int 0)] = penV c 0 0 := by
  have e1 : putK ([] : List (Key × V)) (.inr "cells") (.ref c) = [((.inr "cells" : Key), V.ref c)] := putK_new _ rfl
  have e2 : putK [((.inr "cells" : Key), V.ref c)] (.inr "turn") (.int 0) = [((.inr "cells" : Key), V.ref c), (.inr "turn", .int 0)] := putK_new _ (by rw [valV_neg (show ¬ ((Sum.inr _, V.ref c) : Key × V).1 = _ from ct_)]; rfl)
  have e3 : putK [((.inr "cells" : Key), V.ref c), (.inr "turn", .int 0)] (.inr "left") (.int 0) = penV c 0 0 :=
    putK_new _ (by rw [valV_neg (show ¬ ((Sum.inr _, V.ref c) : Key × V).1 = _ from cl_), valV_neg (show ¬ ((Sum.inr _, V.int 0) : Key × V).1 = _ from tl_)]; rfl)
  unfold mergeK
  rw [List.foldl_cons, List.foldl_cons, List.foldl_cons, List.foldl_nil]
  dsimp only
  rw [e1, e2, e3]
/-- a[:k], 0 <= k -/
theorem cut_to (xs : List V) (k : Nat) : cutV xs none (some (k : Int)) = xs.take k := by
  unfold cutV
  rw [HT.sIx_none, HT.sIx_nat, List.drop_zero, Nat.sub_zero]
  by_cases e : xs.length ≤ k
  · rw [Nat.min_eq_right e, List.take_of_length_le (Nat.le_refl _), List.take_of_length_le e]
  · rw [Nat.min_eq_left (by omega)]
/-- a[k:], 0 <= k -/
theorem cut_from (xs : List V) (k : Nat) : cutV xs (some (k : Int)) none = xs.drop k := by
  unfold cutV
  rw [HT.sIx_none, HT.sIx_nat]
  by_cases e : xs.length ≤ k
  · rw [Nat.min_eq_right e, List.drop_of_length_le (Nat.le_refl _), List.drop_of_length_le e, List.take_nil]
  · rw [Nat.min_eq_left (by omega), List.take_of_length_le (by rw [List.length_drop]; omega)]

theorem get_cells {H : Hp} {p c : Addr} {t l : Int} (hp : H p = some (.dK (penV c t l))) : DGet H p (.str "cells") (some (.ref c)) := by
  rw [← penV_cells c t l]
  exact DGet.k (k := .inr "cells") hp
theorem get_turn {H : Hp} {p c : Addr} {t l : Int} (hp : H p = some (.dK (penV c t l))) : DGet H p (.str "turn") (some (.int t)) := by
  rw [← penV_turn c t l]
  exact DGet.k (k := .inr "turn") hp
theorem get_left {H : Hp} {p c : Addr} {t l : Int} (hp : H p = some (.dK (penV c t l))) : DGet H p (.str "left") (some (.int l)) := by
  rw [← penV_left c t l]
  exact DGet.k (k := .inr "left") hp
theorem put_turn {H : Hp} {p c : Addr} {t l u : Int} (hp : H p = some (.dK (penV c t l))) : DPut H p (.str "turn") (.int u) (upd H p (.dK (penV c u l))) := by
  rw [← putK_turn c t l u]
  exact DPut.k (k := .inr "turn") hp (by show 3 < sizeLine; decide)
theorem put_left {H : Hp} {p c : Addr} {t l u : Int} (hp : H p = some (.dK (penV c t l))) : DPut H p (.str "left") (.int u) (upd H p (.dK (penV c t u))) := by
  rw [← putK_left c t l u]
  exact DPut.k (k := .inr "left") hp (by show 3 < sizeLine; decide)
theorem seq_put {K : Frag} {H : Hp} {p c : Addr} {xs : List V} {o : HO} {kvs : List (Key × V)} (h : SqL K H c xs) (hp : H p = some (.dK kvs)) : SqL K (upd H p o) c xs := by
  by_cases e : c = p
  · subst e
    rcases h with (h | ⟨ob, h⟩) | ⟨o2, q, n, h, a, b, d⟩
    · rw [hp] at h; cases h
    · rw [hp] at h; cases h
    · right; exact ⟨o2, q, n, h, a, b, d⟩
  · rcases h with (h | ⟨ob, h⟩) | h
    · exact .inl (.inl (by rw [upd_ne e]; exact h))
    · exact .inl (.inr ⟨ob, by rw [upd_ne e]; exact h⟩)
    · exact .inr h
theorem dps_ints {K : Frag} {H : Hp} : ∀ ns : List Int, DpAll K H (ns.map V.int) (ns.map PyData.int)
  | [] => .nil
  | n :: r => .cons (.int n) (dps_ints r)
theorem ints_lay : ∀ ns : List Int, PyData.canLayAll0 (ns.map PyData.int) = true
  | [] => rfl
  | n :: r => by
    rw [List.map_cons, PyData.canLayAll0, ints_lay r]
    rfl
theorem ints_deep : ∀ ns : List Int, PyData.depthAll (ns.map PyData.int) ≤ 1
  | [] => by simp [PyData.depthAll]
  | n :: r => by
    have ih := ints_deep r
    rw [List.map_cons, PyData.depthAll]
    have h1 : (PyData.int n).depth ≤ 1 := by simp [PyData.depth]
    omega
theorem shaped_ints (ns : List Int) : SeqAt.shaped (.list (ns.map PyData.int)) = true := by
  have h1 := ints_lay ns
  have h2 := ints_deep ns
  unfold SeqAt.shaped
  rw [Bool.and_eq_true, decide_eq_true_eq]
  refine ⟨by rw [PyData.canLay0]; exact h1, ?_⟩
  rw [PyData.depth]
  omega
def primes : List V := [.int 2147483647, .int 2147483629, .int 2147483587, .int 2147483579, .int 2147483563]
theorem prime_at {k : Int} (h0 : 0 ≤ k) (h5 : k < 5) : ∃ q : Int, atI primes k = some (.int q) ∧ 0 < q ∧ q < 2 ^ 31 := by
  obtain ⟨n, rfl⟩ := Int.eq_ofNat_of_zero_le h0
  have hn : n < 5 := by omega
  match n, hn with
  | 0, _ => exact ⟨2147483647, atI_nat rfl, by decide, by decide⟩
  | 1, _ => exact ⟨2147483629, atI_nat rfl, by decide, by decide⟩
  | 2, _ => exact ⟨2147483587, atI_nat rfl, by decide, by decide⟩
  | 3, _ => exact ⟨2147483579, atI_nat rfl, by decide, by decide⟩
  | 4, _ => exact ⟨2147483563, atI_nat rfl, by decide, by decide⟩
theorem div_w {i j : Int} (h : 0 < j) (hb : j.natAbs < 2 ^ 8000) : CDivW i j := wide_div h hb (by decide) (by decide)
theorem div_s {i j : Int} (h : 0 < j) (hb : j < 2 ^ 62) : CDivW i j := wide_div (b := 62) h (by omega) (by decide) (by decide)
theorem mod_lo (a : Int) {m : Int} (h : 0 < m) : 0 ≤ a % m := Int.emod_nonneg a (by omega)
theorem mod_hi (a : Int) {m : Int} (h : 0 < m) : a % m < m := Int.emod_lt_of_pos a h
theorem div_lo {a m : Int} (ha : 0 ≤ a) (h : 0 < m) : 0 ≤ a / m := Int.ediv_nonneg ha (by omega)
/-- an item of a list of ints -/
theorem int_at {ns : List Int} {k : Int} (h0 : 0 ≤ k) (h : k < (ns.length : Int)) : ∃ z : Int, atI (ns.map V.int) k = some (.int z) := by
  obtain ⟨n, rfl⟩ := Int.eq_ofNat_of_zero_le h0
  have hn : n < ns.length := by omega
  exact ⟨ns[n], atI_nat (by rw [List.getElem?_map, List.getElem?_eq_getElem hn]; rfl)⟩

theorem Kp.rd {K : Frag} {p a c : Addr} {H H' : Hp} {n : Nat} {u : HO} (k : Kp p H H') (pen : Pen K H p c n) (hu : ∀ kvs, u ≠ .dK kvs) (h : Rd H a u) : Rd H' a u := by
  obtain ⟨cs, t, l, hp, _⟩ := pen
  rcases h with h | ⟨o, h⟩
  · refine .inl (k a u (fun e => ?_) h)
    rw [e, hp] at h
    exact hu _ (Option.some.inj h).symm
  · refine .inr ⟨o, k a _ (fun e => ?_) h⟩
    rw [e, hp] at h
    cases h
theorem Kp.seq {K : Frag} {p a c : Addr} {H H' : Hp} {n : Nat} {xs : List V} (k : Kp p H H') (pen : Pen K H p c n) (h : SqL K H a xs) : SqL K H' a xs := by
  rcases h with h | h
  · exact .inl (k.rd pen (fun _ z => by cases z) h)
  · exact .inr h
theorem Kp.seqT {K : Frag} {p a c : Addr} {H H' : Hp} {n : Nat} {xs : List V} (k : Kp p H H') (pen : Pen K H p c n) (h : SqT K H a xs) : SqT K H' a xs := by
  rcases h with h | h
  · exact .inl (k.rd pen (fun _ z => by cases z) h)
  · exact .inr h
theorem Pen.le {K : Frag} {H : Hp} {p c : Addr} {m n : Nat} (h : Pen K H p c m) (e : m ≤ n) : Pen K H p c n := by
  obtain ⟨cs, t, l, a1, a2, a3, a4, a5, a6⟩ := h
  exact ⟨cs, t, l, a1, a2, a3, a4, by omega, a6⟩
/-- the pen stands behind what keeps all -/
theorem Pen.same {K : Frag} {H H' : Hp} {p c : Addr} {n : Nat} (h : Pen K H p c n) (e : Same H H') : Pen K H' p c n := by
  obtain ⟨cs, t, l, a1, a2, a3, a4, a5, a6⟩ := h
  exact ⟨cs, t, l, e _ _ a1, e _ _ a2, a3, a4, a5, a6⟩
theorem Pen.at {K : Frag} {H : Hp} {p c : Addr} {n : Nat} (h : Pen K H p c n) : ∃ kvs, H p = some (.dK kvs) := by
  obtain ⟨cs, t, l, a1, _⟩ := h
  exact ⟨_, a1⟩
theorem new_same {H : Hp} {q : Addr} {o : HO} (h : H q = none) : Same H (upd H q o) := fun b u e => by
  rw [upd_ne (ne_of_none e h)]
  exact e
theorem atI_mem {α : Type} {xs : List α} {k : Int} (h0 : 0 ≤ k) (h : k < (xs.length : Int)) : ∃ v, v ∈ xs ∧ atI xs k = some v := by
  obtain ⟨n, rfl⟩ := Int.eq_ofNat_of_zero_le h0
  have hn : n < xs.length := by omega
  exact ⟨xs[n], List.getElem_mem hn, atI_nat (List.getElem?_eq_getElem hn)⟩
theorem line_pow : sizeLine < 2 ^ 40 := by decide
theorem len_pow {n : Nat} (h : n ≤ sizeLine) : ((n : Int)).natAbs < 2 ^ 8000 := by
  have h1 : n < 2 ^ 40 := Nat.lt_of_le_of_lt h line_pow
  have h2 : (2 : Nat) ^ 40 ≤ 2 ^ 8000 := Nat.pow_le_pow_right (by decide) (by decide)
  rw [Int.natAbs_natCast]
  exact Nat.lt_of_lt_of_le h1 h2

theorem small_pow {m : Int} (h : m.natAbs < 2 ^ 40) : m.natAbs < 2 ^ 8000 := Nat.lt_of_lt_of_le h (Nat.pow_le_pow_right (by decide) (by decide))
theorem ifY {c : Bool} {A B : Prop} (h : c = true) (a : A) : if c = true then A else B := by
  rw [if_pos h]
  exact a
theorem ifN {c : Bool} {A B : Prop} (h : c = false) (b : B) : if c = true then A else B := by
  rw [h, if_neg Bool.false_ne_true]
  exact b
/-- a new object is none of the pen's -/
theorem Pen.new_p {K : Frag} {H : Hp} {p c D : Addr} {n : Nat} (h : Pen K H p c n) (hD : H D = none) : D ≠ p := fun e => by
  obtain ⟨cs, t, l, a1, _⟩ := h
  rw [e, a1] at hD
  cases hD
theorem Pen.new_c {K : Frag} {H : Hp} {p c D : Addr} {n : Nat} (h : Pen K H p c n) (hD : H D = none) : D ≠ c := fun e => by
  obtain ⟨cs, t, l, _, a2, _⟩ := h
  rw [e, a2] at hD
  cases hD
/-- .. it may be written -/
theorem Pen.put {K : Frag} {H : Hp} {p c D : Addr} {n : Nat} {o : HO} (h : Pen K H p c n) (nDp : D ≠ p) (nDc : D ≠ c) : Pen K (upd H D o) p c n := by
  obtain ⟨cs, t, l, a1, a2, a3, a4, a5, a6⟩ := h
  exact ⟨cs, t, l, by rw [upd_ne nDp.symm]; exact a1, by rw [upd_ne nDc.symm]; exact a2, a3, a4, a5, a6⟩
/-- _law_pen(script) -/
def spPen (K : Frag) : Sp := fun vs H Q _ => ∃ (a : Addr) (ns : List Int), vs = [.ref a] ∧ SqL K H a (ns.map V.int) ∧ ∀ p c H', H p = none → Same H H' → Pen K H' p c 0 → Q (.ref p) H'
/-- _law_draw(pen, many) -/
def spDraw (K : Frag) : Sp := fun vs H Q _ => ∃ (p c : Addr) (m : Int) (n : Nat), vs = [.ref p, .int m] ∧ Pen K H p c n ∧ n < 2 ^ 40 ∧ 0 < m ∧ m.natAbs < 2 ^ 8000 ∧ ∀ v H', 0 ≤ v → v < m → Kp p H H' → Pen K H' p c (n + 1) → Q (.int v) H'
/-- _law_pick(pen, options) -/
def spPick (K : Frag) : Sp := fun vs H Q _ => ∃ (p c a : Addr) (xs : List V) (n : Nat), vs = [.ref p, .ref a] ∧ Pen K H p c n ∧ n < 2 ^ 40 ∧ SqL K H a xs ∧ xs ≠ [] ∧ xs.length ≤ sizeLine ∧ ∀ v ∈ xs, ∀ H', Kp p H H' → Pen K H' p c (n + 1) → Q v H'
/-- _law_pick(pen, a text) -/
def spPickS (K : Frag) : Sp := fun vs H Q _ => ∃ (p c : Addr) (x : PySem.Str) (n : Nat), vs = [.ref p, .str x] ∧ Pen K H p c n ∧ n < 2 ^ 40 ∧ 0 < x.length ∧ x.length ≤ sizeLine ∧ ∀ g : Nat, g ∈ x.cps.toList → ∀ H', Kp p H H' → Pen K H' p c (n + 1) → Q (.str ⟨#[g]⟩) H'
/-- _law_great(pen, figures) -/
def spGreat (K : Frag) : Sp := fun vs H Q _ => ∃ (p c : Addr) (n m : Nat), vs = [.ref p, .int m] ∧ Pen K H p c n ∧ n + m < 2 ^ 40 ∧ m ≤ 1000 ∧ ∀ v H', 0 ≤ v → v < 10 ^ m → Kp p H H' → Pen K H' p c (n + m) → Q (.int v) H'
/-- abs, as the reading writes it -/
theorem abs_ge (i : Int) : 0 ≤ (if i < 0 then -i else i) := by split <;> omega
end SmA

/-! Plain: integers as texts, pairs, chains. -/
namespace SmM
open PySem L2 SX PySem.NumText

/-- the list of signs of a whole number's text -/
def decL (n : Int) : List Nat := if n < 0 then 45 :: TL.numL n.natAbs else TL.numL n.natAbs
theorem dec_S (n : Int) : PySem.Str.ofString (toString n) = S (decL n) := by
  unfold decL
  cases n with
  | ofNat m =>
    rw [if_neg (show ¬ Int.ofNat m < 0 from by show ¬ ((m : Nat) : Int) < 0; omega)]
    exact num_S m
  | negSucc m =>
    rw [if_pos (by omega)]
    refine TL.ext_tl ?_
    have e : toString (Int.negSucc m) = "-" ++ toString (((m + 1 : Nat) : Int)) := by
      show Int.repr (Int.negSucc m) = _
      rfl
    rw [e, TL.tl_ofString]
    have h2 := TL.tl_num (m + 1)
    rw [TL.tl_ofString] at h2
    rw [String.toList_append, List.map_append, h2]
    rfl
theorem decL_len {n : Int} {k : Nat} (hk : 0 < k) (h : n.natAbs < 10 ^ k) : (decL n).length ≤ k + 1 := by
  have z := TL.numL_len hk h
  unfold decL
  split
  · rw [List.length_cons]; omega
  · omega
theorem decL_free {n : Int} {s : Nat} (h : (s < 48 ∧ s ≠ 45) ∨ 57 < s) : s ∉ decL n := by
  unfold decL
  have z : s ∉ TL.numL n.natAbs := TL.numL_free (by omega)
  split
  · intro hm
    rcases List.mem_cons.mp hm with e | e
    · omega
    · exact z e
  · exact z
theorem decL_ne (n : Int) : decL n ≠ [] := by
  unfold decL
  split
  · exact List.cons_ne_nil _ _
  · exact TL.numL_ne _

def isDig (c : Nat) : Bool := decide (48 ≤ c) && decide (c ≤ 57)
def digitsOf (l : List Nat) : List Nat := if l.take 1 = [45] then l.drop 1 else l
def numOf (l : List Nat) : Option Int :=
  if (digitsOf l).length < 1 ∨ 1000 < (digitsOf l).length ∨ (digitsOf l).all isDig = false then none
  else if (digitsOf l).head? = some 48 ∧ l ≠ [48] then none
  else some (if l.take 1 = [45] then -((digitsVal (digitsOf l) : Nat) : Int) else ((digitsVal (digitsOf l) : Nat) : Int))

theorem all_dig {l : List Nat} (h : l.all isDig = true) : AllDigits l := fun c hc => by
  have z : (decide (48 ≤ c) && decide (c ≤ 57)) = true := List.all_eq_true.mp h c hc
  rw [Bool.and_eq_true, decide_eq_true_eq, decide_eq_true_eq] at z
  exact z
theorem dig_all {l : List Nat} (h : AllDigits l) : l.all isDig = true := List.all_eq_true.mpr fun c hc => by
  have := h c hc
  show (decide (48 ≤ c) && decide (c ≤ 57)) = true
  rw [Bool.and_eq_true, decide_eq_true_eq, decide_eq_true_eq]
  exact this
theorem minus_eq {l : List Nat} (h : l.take 1 = [45]) : l = 45 :: l.drop 1 := by
  cases l with
  | nil => cases h
  | cons c r =>
    rw [List.take_succ_cons, List.take_zero] at h
    injection h with h
    rw [h]
    rfl
/-- where the number stands, int(text) is it -/
theorem int_of {l : List Nat} {n : Int} (h : (digitsOf l).length ≥ 1) (h2 : (digitsOf l).length ≤ 1000) (h3 : (digitsOf l).all isDig = true) (hn : n = if l.take 1 = [45] then -((digitsVal (digitsOf l) : Nat) : Int) else ((digitsVal (digitsOf l) : Nat) : Int)) :
    PySem.intText? (S l) = some n ∧ (S l).length ≤ 4300 := by
  subst hn
  by_cases m : l.take 1 = [45]
  · have e : digitsOf l = l.drop 1 := if_pos m
    rw [e] at h h2 h3 ⊢
    rw [if_pos m]
    have hl : (S l).length ≤ 4300 := by
      rw [S_len]
      have := congrArg List.length (minus_eq m)
      rw [List.length_cons] at this
      omega
    exact ⟨intText_neg (x := S l) (cs := l.drop 1) (minus_eq m) (all_dig h3) (by intro z; rw [z] at h; simp at h) hl, hl⟩
  · have e : digitsOf l = l := if_neg m
    rw [e] at h h2 h3 ⊢
    rw [if_neg m]
    have hl : (S l).length ≤ 4300 := by rw [S_len]; omega
    exact ⟨intText_digits (x := S l) (all_dig h3) (by intro z; change l = [] at z; rw [z] at h; simp at h) hl, hl⟩
theorem val_lt : ∀ (l : List Nat) (a : Nat), AllDigits l → l.foldl (fun acc c => acc * 10 + (c - 48)) a < (a + 1) * 10 ^ l.length
  | [], a, _ => by simp
  | c :: r, a, h => by
    have hc := h c (List.mem_cons_self ..)
    have ih := val_lt r (a * 10 + (c - 48)) (fun d hd => h d (List.mem_cons_of_mem _ hd))
    rw [List.foldl_cons, List.length_cons, Nat.pow_succ]
    refine Nat.lt_of_lt_of_le ih ?_
    rw [Nat.mul_comm (10 ^ r.length) 10, ← Nat.mul_assoc]
    exact Nat.mul_le_mul_right _ (by omega)
theorem digits_lt {l : List Nat} {k : Nat} (h : AllDigits l) (hl : l.length ≤ k) : digitsVal l < 10 ^ k := by
  have z := val_lt l 0 h
  rw [Nat.zero_add, Nat.one_mul] at z
  exact Nat.lt_of_lt_of_le z (Nat.pow_le_pow_right (by decide) hl)
theorem num_small {l : List Nat} {n : Int} (h : numOf l = some n) : n.natAbs < 10 ^ 1000 := by
  unfold numOf at h
  split at h
  · cases h
  · rename_i c
    have c1 : (digitsOf l).length ≤ 1000 := Nat.le_of_not_lt fun z => c (.inr (.inl z))
    have c2 : (digitsOf l).all isDig = true := by
      cases e : (digitsOf l).all isDig with
      | true => rfl
      | false => exact absurd (.inr (.inr e)) c
    have z := digits_lt (all_dig c2) c1
    split at h
    · cases h
    · injection h with h
      subst h
      split
      · rw [Int.natAbs_neg, Int.natAbs_natCast]; exact z
      · rw [Int.natAbs_natCast]; exact z
/-- its signs -/
theorem num_signs {l : List Nat} {n : Int} (h : numOf l = some n) {c : Nat} (hc : c ∈ l) : c = 45 ∨ (48 ≤ c ∧ c ≤ 57) := by
  unfold numOf at h
  split at h
  · cases h
  · rename_i d
    have c2 : (digitsOf l).all isDig = true := by
      cases e : (digitsOf l).all isDig with
      | true => rfl
      | false => exact absurd (.inr (.inr e)) d
    by_cases m : l.take 1 = [45]
    · have e : digitsOf l = l.drop 1 := if_pos m
      rw [minus_eq m] at hc
      rcases List.mem_cons.mp hc with z | z
      · exact .inl z
      · rw [← e] at z
        exact .inr (all_dig c2 c z)
    · have e : digitsOf l = l := if_neg m
      rw [e] at c2
      exact .inr (all_dig c2 c hc)
theorem num_free {l : List Nat} {s : Nat} (hs : (s < 48 ∧ s ≠ 45) ∨ 57 < s) (h : s ∈ l) : numOf l = none := by
  cases e : numOf l with
  | none => rfl
  | some n =>
    have := num_signs e h
    omega
theorem numL_head {n : Nat} (h : (TL.numL n).head? = some 48) : n = 0 := by
  induction n using Nat.strongRecOn with
  | _ n ih =>
    by_cases c : n < 10
    · rw [TL.numL_lt c] at h
      injection h with h
      omega
    · rw [TL.numL_step (by omega)] at h
      have ne := TL.numL_ne (n / 10)
      have h2 : (TL.numL (n / 10)).head? = some 48 := by
        cases e : TL.numL (n / 10) with
        | nil => exact absurd e ne
        | cons a r =>
          rw [e] at h
          exact h
      have := ih (n / 10) (by omega) h2
      omega
/-- a number's text reads back -/
theorem num_dec {n : Int} (h : n.natAbs < 10 ^ 1000) : numOf (decL n) = some n := by
  have len := TL.numL_len (by decide) h
  have dig := TL.numL_digits n.natAbs
  have ne := TL.numL_ne n.natAbs
  have val := TL.numL_val n.natAbs
  have pos : 0 < (TL.numL n.natAbs).length := List.length_pos_iff.mpr ne
  by_cases neg : n < 0
  · have e : decL n = 45 :: TL.numL n.natAbs := if_pos neg
    have m : (decL n).take 1 = [45] := by rw [e]; rfl
    have d : digitsOf (decL n) = TL.numL n.natAbs := by
      unfold digitsOf
      rw [if_pos m, e]
      rfl
    unfold numOf
    rw [d, if_neg, if_neg, if_pos m, val]
    · congr 1
      omega
    · rintro ⟨z, _⟩
      have := numL_head z
      omega
    · rintro (z | z | z)
      · omega
      · omega
      · rw [dig_all dig] at z; cases z
  · have e : decL n = TL.numL n.natAbs := if_neg neg
    have m : ¬ (decL n).take 1 = [45] := by
      rw [e]
      intro z
      have h45 : 45 ∈ TL.numL n.natAbs := by rw [minus_eq z]; exact List.mem_cons_self ..
      have := dig 45 h45
      omega
    have d : digitsOf (decL n) = TL.numL n.natAbs := by
      unfold digitsOf
      rw [if_neg m, e]
    unfold numOf
    rw [d, if_neg, if_neg, if_neg m, val]
    · congr 1
      omega
    · rintro ⟨z, y⟩
      have z0 := numL_head z
      apply y
      rw [e, z0]
      rw [TL.numL_lt (by decide)]
    · rintro (z | z | z)
      · omega
      · omega
      · rw [dig_all dig] at z; cases z

/-! ### pairs -/
theorem cut_first (s : Nat) : ∀ l : List Nat, s ∉ l ∨ ∃ p q, l = p ++ ([s] ++ q) ∧ s ∉ p
  | [] => .inl List.not_mem_nil
  | c :: r => by
    by_cases e : c = s
    · exact .inr ⟨[], r, by rw [e]; rfl, List.not_mem_nil⟩
    · rcases cut_first s r with h | ⟨p, q, h, k⟩
      · exact .inl fun z => by
          rcases List.mem_cons.mp z with z | z
          · exact e z.symm
          · exact h z
      · refine .inr ⟨c :: p, q, by rw [h]; rfl, fun z => ?_⟩
        rcases List.mem_cons.mp z with z | z
        · exact e z.symm
        · exact k z
def pair2 (a b : Option Int) : Option (Int × Int) := match a, b with
  | some x, some y => some (x, y)
  | _, _ => none
/-- by split -/
def pairOf (l : List Nat) : Option (Int × Int) := match TL.spl [47] 0 [] l with
  | [a, b] => pair2 (numOf a) (numOf b)
  | _ => none
theorem spl_ne (s : Nat) (l : List Nat) : TL.spl [s] 0 [] l ≠ [] := by
  rcases cut_first s l with h | ⟨p, q, rfl, h⟩
  · rw [TL.spl_last1 h]; exact List.cons_ne_nil _ _
  · rw [TL.spl_part1 (S := []) h]; exact List.cons_ne_nil _ _
theorem spl_sizes (s : Nat) : ∀ (n : Nat) (l : List Nat), l.length ≤ n → (TL.spl [s] 0 [] l).length ≤ l.length + 1 ∧ ∀ p ∈ TL.spl [s] 0 [] l, p.length ≤ l.length ∧ ∀ c ∈ p, c ∈ l
  | n, l, h => by
    rcases cut_first s l with k | ⟨p, q, rfl, k⟩
    · rw [TL.spl_last1 k, List.nil_append]
      refine ⟨by simp, fun x hx => ?_⟩
      rw [List.mem_singleton.mp hx]
      exact ⟨Nat.le_refl _, fun _ h => h⟩
    · rw [TL.spl_part1 (S := []) k, List.nil_append]
      rw [List.length_append, List.length_append, List.length_singleton] at h ⊢
      match n, h with
      | 0, h => omega
      | n + 1, h =>
        obtain ⟨h1, h2⟩ := spl_sizes s n q (by omega)
        refine ⟨by rw [List.length_cons]; omega, fun x hx => ?_⟩
        rcases List.mem_cons.mp hx with e | hx
        · subst e
          exact ⟨by omega, fun c hc => List.mem_append_left _ hc⟩
        · obtain ⟨h3, h4⟩ := h2 x hx
          exact ⟨by omega, fun c hc => List.mem_append_right _ (List.mem_append_right _ (h4 c hc))⟩
theorem spl_count (s : Nat) (l : List Nat) : (TL.spl [s] 0 [] l).length ≤ l.length + 1 := (spl_sizes s _ l (Nat.le_refl _)).1
theorem spl_part_le {s : Nat} {l p : List Nat} (h : p ∈ TL.spl [s] 0 [] l) : p.length ≤ l.length := ((spl_sizes s _ l (Nat.le_refl _)).2 p h).1
theorem spl_part_mem {s : Nat} {l p : List Nat} (h : p ∈ TL.spl [s] 0 [] l) {c : Nat} (hc : c ∈ p) : c ∈ l := ((spl_sizes s _ l (Nat.le_refl _)).2 p h).2 c hc
/-- .. by partition: none where the sign does not stand -/
theorem pair_none {l : List Nat} (h : 47 ∉ l) : pairOf l = none := by
  unfold pairOf
  rw [TL.spl_last1 h]
theorem pair_some {p q : List Nat} (h : 47 ∉ p) : pairOf (p ++ ([47] ++ q)) = pair2 (numOf p) (numOf q) := by
  unfold pairOf
  rw [TL.spl_part1 (S := []) h, List.nil_append]
  rcases cut_first 47 q with k | ⟨a, b, rfl, k⟩
  · rw [TL.spl_last1 k, List.nil_append]
  · rw [TL.spl_part1 (S := []) k, num_free (s := 47) (by omega) (show 47 ∈ a ++ ([47] ++ b) from List.mem_append_right _ (List.mem_append_left _ (List.mem_singleton.mpr rfl)))]
    have ne := spl_ne 47 b
    cases e : TL.spl [47] 0 [] b with
    | nil => exact absurd e ne
    | cons x y =>
      show none = pair2 (numOf p) none
      unfold pair2
      split <;> simp_all
theorem pair2_some {a b : Option Int} {x y : Int} (h : pair2 a b = some (x, y)) : a = some x ∧ b = some y := by
  unfold pair2 at h
  split at h
  · injection h with h
    injection h with h1 h2
    subst h1 h2
    exact ⟨rfl, rfl⟩
  · cases h
theorem pair_dec {a b : Int} (ha : a.natAbs < 10 ^ 1000) (hb : b.natAbs < 10 ^ 1000) : pairOf (decL a ++ ([47] ++ decL b)) = some (a, b) := by
  rw [pair_some (decL_free (by omega)), num_dec ha, num_dec hb]
  rfl
theorem pair_small {l : List Nat} {a b : Int} (h : pairOf l = some (a, b)) : a.natAbs < 10 ^ 1000 ∧ b.natAbs < 10 ^ 1000 := by
  unfold pairOf at h
  split at h
  · obtain ⟨h1, h2⟩ := pair2_some h
    exact ⟨num_small h1, num_small h2⟩
  · cases h
/-! ### fractions -/
def g2 (a b : Int) : Int := (Int.gcd a b : Nat)
theorem g2_pos {a b : Int} (h : 0 < b) : 0 < g2 a b := by
  unfold g2
  have : 0 < Int.gcd a b := Int.gcd_pos_of_ne_zero_right a (by omega)
  omega
theorem g2_le {a b : Int} (h : 0 < b) : g2 a b ≤ b := Int.le_of_dvd h (Int.gcd_dvd_right a b)
def fracOf (l : List Nat) : Option (Int × Int) := match pairOf l with
  | none => none
  | some (a, b) => if b < 1 then none else if a / g2 a b = a ∧ b / g2 a b = b then some (a, b) else none
/-- reduced: once more is the same -/
theorem reduced_again {a b : Int} (h : 0 < b) : g2 (a / g2 a b) (b / g2 a b) = 1 := by
  have p := g2_pos (a := a) h
  have ea : a / g2 a b * g2 a b = a := Int.ediv_mul_cancel (Int.gcd_dvd_left a b)
  have eb : b / g2 a b * g2 a b = b := Int.ediv_mul_cancel (Int.gcd_dvd_right a b)
  have z : Int.gcd (a / g2 a b * g2 a b) (b / g2 a b * g2 a b) = Int.gcd (a / g2 a b) (b / g2 a b) * (g2 a b).natAbs := Int.gcd_mul_right ..
  rw [ea, eb] at z
  unfold g2 at z p ⊢
  rw [Int.natAbs_natCast] at z
  have p2 : 0 < Int.gcd a b := by omega
  have one : Int.gcd (a / (Int.gcd a b : Nat)) (b / (Int.gcd a b : Nat)) = 1 := by
    refine Nat.eq_of_mul_eq_mul_right p2 ?_
    rw [Nat.one_mul]
    exact z.symm
  rw [one]
  rfl
theorem reduced_pos {a b : Int} (h : 0 < b) : 1 ≤ b / g2 a b := by
  have z := g2_pos (a := a) h
  exact (Int.le_ediv_iff_mul_le z).mpr (by rw [Int.one_mul]; exact g2_le h)
theorem frac_dec {a b : Int} (h : 0 < b) (ha : (a / g2 a b).natAbs < 10 ^ 1000) (hb : (b / g2 a b).natAbs < 10 ^ 1000) :
    fracOf (decL (a / g2 a b) ++ ([47] ++ decL (b / g2 a b))) = some (a / g2 a b, b / g2 a b) := by
  unfold fracOf
  rw [pair_dec ha hb]
  have z := reduced_pos (a := a) h
  dsimp only
  rw [if_neg (by omega), reduced_again h, Int.ediv_one, Int.ediv_one, if_pos ⟨rfl, rfl⟩]
theorem frac_small {l : List Nat} {a b : Int} (h : fracOf l = some (a, b)) : a.natAbs < 10 ^ 1000 ∧ b.natAbs < 10 ^ 1000 := by
  unfold fracOf at h
  split at h
  · cases h
  · rename_i x y e
    split at h
    · cases h
    · split at h
      · injection h with h
        injection h with h1 h2
        subst h1 h2
        exact pair_small e
      · cases h
/-! ### chains -/
def all2 : List (Option Int) → Option (List Int)
  | [] => some []
  | none :: _ => none
  | some n :: r => (all2 r).map (n :: ·)
def chainOf (l : List Nat) : Option (List Int) := all2 ((TL.spl [32] 0 [] l).map numOf)
theorem all2_some : ∀ {os : List (Option Int)} {ns : List Int}, all2 os = some ns → os = ns.map some
  | [], ns, h => by injection h with h; subst h; rfl
  | none :: _, ns, h => by cases h
  | some n :: r, ns, h => by
    cases e : all2 r with
    | none => rw [all2, e] at h; cases h
    | some ms =>
      rw [all2, e] at h
      injection h with h
      subst h
      rw [all2_some e]
      rfl
theorem all2_none : ∀ {os : List (Option Int)}, all2 os = none → none ∈ os
  | [], h => by cases h
  | none :: _, _ => List.mem_cons_self ..
  | some n :: r, h => by
    cases e : all2 r with
    | none => exact List.mem_cons_of_mem _ (all2_none e)
    | some ms => rw [all2, e] at h; cases h
theorem all2_map : ∀ ns : List Int, all2 (ns.map some) = some ns
  | [] => rfl
  | n :: r => by rw [List.map_cons, all2, all2_map r]; rfl
theorem chain_dec {ns : List Int} (ne : ns ≠ []) (h : ∀ n ∈ ns, n.natAbs < 10 ^ 1000) : chainOf (TL.joinL [32] (ns.map decL)) = some ns := by
  unfold chainOf
  rw [TL.spl_join (by simpa using ne) (fun p hp => by
    obtain ⟨n, _, rfl⟩ := List.mem_map.mp hp
    exact decL_free (by omega)), List.map_map]
  have e : ns.map (numOf ∘ decL) = ns.map some := List.map_congr_left fun n hn => num_dec (h n hn)
  rw [e, all2_map]
theorem chain_small {l : List Nat} {ns : List Int} (h : chainOf l = some ns) : ∀ n ∈ ns, n.natAbs < 10 ^ 1000 := fun n hn => by
  have z := all2_some h
  have m : some n ∈ (TL.spl [32] 0 [] l).map numOf := by rw [z]; exact List.mem_map_of_mem hn
  obtain ⟨p, _, hp⟩ := List.mem_map.mp m
  exact num_small hp
end SmM

/-! Comprehensions over a text; values that may be None. -/
namespace SmA
open PySem PySem.W PySem.Calls PyProof.Rows L2
/-- over a text, sign by sign -/
theorem lc_str {x : PySem.Str} {g : TG} {tt : TT} {te : TE} {vs : List Nat} {σ : L2.St} {H1 : Hp} {D : Addr} {Qd : Hp → Prop} (Pv : Nat → Hp → Prop) (h0 : Pv 0 (upd H1 D (.lst [])))
    (hs : ∀ i c H, x.cps.toList[i]? = some c → Pv i H → g (.str ⟨#[c]⟩) (wipe σ vs) H fun σ2 H2 => wipe σ2 vs = wipe σ vs ∧ tt σ2 H2 fun b H3 =>
      if b = true then te σ2 H3 fun y H4 => ∃ acc, H4 D = some (.lst acc) ∧ acc.length < sizeLine ∧ Pv (i + 1) (upd H4 D (.lst (acc ++ [y]))) else Pv (i + 1) H3) (hd : ∀ H, Pv x.cps.toList.length H → Qd H) :
    ∃ W : Nat → Nat → Hp → Prop, (∃ m, W 0 m (upd H1 D (.lst []))) ∧ ∀ i m H, W i m H →
      ((Its x).stop i H ∧ Qd H) ∨ ((Its x).go i H ∧ ∃ Nx : Hp → Prop, (∀ H', Nx H' → ∃ m', m' < m ∧ W (i + 1) m' H') ∧ ∀ y H', (Its x).yld i H y H' → g y (wipe σ vs) H' fun σ2 H2 => wipe σ2 vs = wipe σ vs ∧ tt σ2 H2 fun b H3 =>
        if b = true then te σ2 H3 fun y H4 => ∃ acc, H4 D = some (.lst acc) ∧ acc.length < sizeLine ∧ Nx (upd H4 D (.lst (acc ++ [y]))) else Nx H3) := by
  have hz : x.cps.toList.length = x.cps.size := Array.length_toList
  refine ⟨fun i m H => m = x.cps.size - i ∧ i ≤ x.cps.size ∧ Pv i H, ⟨x.cps.size, by simp, Nat.zero_le _, h0⟩, ?_⟩
  rintro i m H ⟨rfl, hi, p⟩
  by_cases hlt : i < x.cps.size
  · refine .inr ⟨hlt, Pv (i + 1), fun H' p' => ⟨x.cps.size - (i + 1), by omega, rfl, hlt, p'⟩, fun y H' z => ?_⟩
    obtain ⟨e, c, hc, rfl⟩ := z
    subst e
    exact hs i c _ (by rw [Array.getElem?_toList]; exact hc) p
  · have e : i = x.cps.size := by omega
    subst e
    exact .inl ⟨Nat.le_refl _, hd H (by rw [hz]; exact p)⟩
theorem take_more {α : Type} {l : List α} {i : Nat} {x : α} (h : l[i]? = some x) : l.take (i + 1) = l.take i ++ [x] := by
  rw [List.take_add_one, h]
  rfl
/-- what stands beside a new list -/
def Bes (D : Addr) (H H' : Hp) : Prop := ∀ b o, b ≠ D → H b = some o → H' b = some o
theorem same_new {H H' : Hp} {D : Addr} (h : H D = none) (b : Bes D H H') : Same H H' := fun c o e => b c o (ne_of_none e h) e
theorem bes_put {H H' : Hp} {D : Addr} {o : HO} (b : Bes D H H') : Bes D H (upd H' D o) := fun c u n e => by rw [upd_ne n]; exact b c u n e
theorem bes_start {H : Hp} {D : Addr} {o : HO} : Bes D H (upd H D o) := fun c u n e => by rw [upd_ne n]; exact e
/-- None or an int -/
def optV : Option Int → V
  | none => .non
  | some n => .int n
theorem shaped_intsT (ns : List Int) : SeqAt.shaped (.tuple (ns.map PyData.int)) = true := by
  have h1 := ints_lay ns
  have h2 := ints_deep ns
  unfold SeqAt.shaped
  rw [Bool.and_eq_true, decide_eq_true_eq]
  refine ⟨by rw [PyData.canLay0]; exact h1, ?_⟩
  rw [PyData.depth]
  omega
theorem Dp.ints {K : Frag} {H : Hp} {a : Addr} {ns : List Int} (h : SqL K H a (ns.map V.int)) : Dp K H (.ref a) (.list (ns.map PyData.int)) := .lst h (dps_ints ns)
theorem Dp.intsT {K : Frag} {H : Hp} {a : Addr} {ns : List Int} (h : SqT K H a (ns.map V.int)) : Dp K H (.ref a) (.tuple (ns.map PyData.int)) := .tup h (dps_ints ns)
theorem eqV_self : ∀ {x : V}, flatV x = true → eqV x x = true
  | .non, _ => rfl
  | .bl b, _ => by cases b <;> rfl
  | .int i, _ => by show (i == i) = true; exact beq_self_eq_true i
  | .str x, _ => by show (x == x) = true; exact beq_self_eq_true x
/-- xs != ys: unlike lengths, or the same flat items -/
def rNeF (K : Frag) : R2 := fun x y H Q => ∃ p q xs ys, x = .ref p ∧ y = .ref q ∧ SqL K H p xs ∧ SqL K H q ys ∧ ((xs.length ≠ ys.length ∧ Q (.bl true) H) ∨ (xs = ys ∧ xs.all flatV = true ∧ Q (.bl false) H))
theorem op_neF {X : Cx} (hu : X.A.units + 64 < cLine) : OpR X (compareOp .NotEq) (rNeF X.K) := by
  intro pins s σ H x y v u Q I rx ry h
  obtain ⟨p, q, xs, ys, rfl, rfl, hx, hy, h⟩ := h
  obtain rfl : v = Value.ref p := rx
  obtain rfl : u = Value.ref q := ry
  obtain ⟨as, ra, pa, _⟩ := I.list hx
  obtain ⟨bs, rb, pb, _⟩ := I.list hy
  have na := ra.length
  have nb := rb.length
  have room : X.A.units < cLine := by omega
  rcases h with ⟨ne, h⟩ | ⟨rfl, flat, h⟩
  · exact SeqAt.RcNeAt.lists_lengths pa.isList pb.isList (by simp only [List.size_toArray, bne_iff_ne]; omega) room X.prog X.w _ _ ⟨.bl true, H, I, rfl, h⟩
  · have e : (List.range as.toArray.size).all (fun j => eqV (xs.getD j .non) (xs.getD j .non)) = true := by
      refine List.all_eq_true.mpr fun j hj => ?_
      have hj2 : j < xs.length := by
        have := List.mem_range.mp hj
        simp only [List.size_toArray] at this
        omega
      rw [List.getD_eq_getElem?_getD, List.getElem?_eq_getElem hj2]
      exact eqV_self (List.all_eq_true.mp flat _ (List.getElem_mem hj2))
    refine SeqAt.RcNeAt.lists (e := fun j => eqV (xs.getD j .non) (xs.getD j .non)) pa.isList pb.isList (by simp only [List.size_toArray]; omega) room (fun j h1 h2 => ?_) X.prog X.w _ _ ?_
    · have hj2 : j < xs.length := by
        simp only [List.size_toArray] at h1
        omega
      have f : flatV (xs.getD j .non) = true := by
        rw [List.getD_eq_getElem?_getD, List.getElem?_eq_getElem hj2]
        exact List.all_eq_true.mp flat _ (List.getElem_mem hj2)
      have r1 : RelV (xs.getD j .non) as.toArray[j] := by
        rw [List.getD_eq_getElem?_getD, List.getElem?_eq_getElem hj2]
        obtain ⟨u, h3, h4⟩ := Vals.get ra (List.getElem?_eq_getElem hj2)
        simp only [List.getElem_toArray]
        rw [List.getElem?_eq_some_iff] at h3
        obtain ⟨_, h3⟩ := h3
        rw [h3]
        exact h4
      have r2 : RelV (xs.getD j .non) bs.toArray[j] := by
        rw [List.getD_eq_getElem?_getD, List.getElem?_eq_getElem hj2]
        obtain ⟨u, h3, h4⟩ := Vals.get rb (List.getElem?_eq_getElem hj2)
        simp only [List.getElem_toArray]
        rw [List.getElem?_eq_some_iff] at h3
        obtain ⟨_, h3⟩ := h3
        rw [h3]
        exact h4
      exact eqAt_V r1 r2 f f
    · rw [e]
      exact ⟨.bl false, H, I, rfl, h⟩
theorem eqv_nil (ds : List PyData) : PyData.eqv (.list ds) (.list []) = ds.isEmpty := by
  cases ds with
  | nil => rfl
  | cons d r => rw [PyData.eqv, PyData.eqvAll]; rfl
theorem eqv_ints : ∀ ns ms : List Int, PyData.eqvAll (ns.map PyData.int) (ms.map PyData.int) = decide (ns = ms)
  | [], [] => rfl
  | [], m :: ms => by simp [PyData.eqvAll]
  | n :: ns, [] => by simp [PyData.eqvAll]
  | n :: ns, m :: ms => by
    rw [List.map_cons, List.map_cons, PyData.eqvAll, eqv_ints ns ms]
    have e : PyData.eqv (.int n) (.int m) = decide (n = m) := by
      rw [PyData.eqv]
      first | rfl | simp
    rw [e]
    by_cases a : n = m <;> by_cases b : ns = ms <;> simp [a, b]
theorem eqv_tup_ints (ns ms : List Int) : PyData.eqv (.tuple (ns.map PyData.int)) (.tuple (ms.map PyData.int)) = decide (ns = ms) := by
  rw [PyData.eqv]
  exact eqv_ints ns ms
theorem eqv_list_ints (ns ms : List Int) : PyData.eqv (.list (ns.map PyData.int)) (.list (ms.map PyData.int)) = decide (ns = ms) := by
  rw [PyData.eqv]
  exact eqv_ints ns ms
end SmA

/-! isinstance of data; data that stands while more is laid. -/
namespace SmA
open PySem PySem.W PySem.Calls PyProof.Rows L2
def tyN : PyData → String
  | .none => "NoneType"
  | .bool _ => "bool"
  | .int _ => "int"
  | .str _ => "str"
  | .list _ => "list"
  | .tuple _ => "tuple"
  | .dict _ => "dict"
def isS : PyData → Bool
  | .str _ => true
  | _ => false
theorem dv_ty {K : Frag} {H : Hp} {v : V} {d : PyData} (h : DV K H v d) : TyX K H v (.type (tyN d)) := by
  cases h with
  | non => exact .base .non
  | bl b => exact .base (.bl b)
  | int i => exact .base (.int i)
  | str x => exact .base (.str x)
  | lst h _ =>
    rcases h with (h | ⟨o, h⟩) | ⟨o, its, n, hk, hc, _⟩
    · exact .base (.lst h)
    · exact .base (.frz h)
    · exact .kList hk hc
  | tup h _ =>
    rcases h with (h | ⟨o, h⟩) | ⟨o, its, n, hk, hc, _⟩
    · exact .base (.tup h)
    · exact .fTuple h
    · exact .kTuple hk hc
  | dct h _ =>
    rcases h with h | ⟨o, h⟩
    · exact .base (.dK h)
    · exact .fDict h
theorem kit_str (K : Frag) (d : PyData) : kitOne K (.type (tyN d)) (.type "str") = some (isS d) := by
  cases d with
  | none => exact kit_ty (show kitB "NoneType" "str" = some false by decide +kernel)
  | bool _ => exact kit_ty (show kitB "bool" "str" = some false by decide +kernel)
  | int _ => exact kit_ty (show kitB "int" "str" = some false by decide +kernel)
  | str _ => exact kit_ty (show kitB "str" "str" = some true by decide +kernel)
  | list _ => exact kit_ty (show kitB "list" "str" = some false by decide +kernel)
  | tuple _ => exact kit_ty (show kitB "tuple" "str" = some false by decide +kernel)
  | dict _ => exact kit_ty (show kitB "dict" "str" = some false by decide +kernel)
theorem Same.t {K : Frag} {H H' : Hp} {a : Addr} {xs : List V} (e : Same H H') (h : SqT K H a xs) : SqT K H' a xs := by
  rcases h with (h | ⟨o, h⟩) | h
  · exact .inl (.inl (e _ _ h))
  · exact .inl (.inr ⟨o, e _ _ h⟩)
  · exact .inr h
theorem Same.rd {H H' : Hp} {a : Addr} {u : HO} (e : Same H H') (h : Rd H a u) : Rd H' a u := by
  rcases h with h | ⟨o, h⟩
  · exact .inl (e _ _ h)
  · exact .inr ⟨o, e _ _ h⟩
mutual
theorem DV.same {K : Frag} {H H' : Hp} (e : Same H H') : ∀ {v : V} {d : PyData}, DV K H v d → DV K H' v d
  | _, _, .non => .non
  | _, _, .bl b => .bl b
  | _, _, .int i => .int i
  | _, _, .str x => .str x
  | _, _, .lst h t => .lst (Same.seq e h) (DVs.same e t)
  | _, _, .tup h t => .tup (Same.t e h) (DVs.same e t)
  | _, _, .dct h t => .dct (Same.rd e h) (DVs.same e t)
theorem DVs.same {K : Frag} {H H' : Hp} (e : Same H H') : ∀ {vs : List V} {ds : List PyData}, DVs K H vs ds → DVs K H' vs ds
  | _, _, .nil => .nil
  | _, _, .cons h t => .cons (DV.same e h) (DVs.same e t)
end
/-- a thing that a reader may be given -/
structure Th (K : Frag) (H : Hp) (v : V) (d : PyData) : Prop where
  dv : DV K H v d
  sh : d.showable = true
  dp : d.depth ≤ 60
  ln : d.shown.length ≤ sizeLine
  t6 : ∀ x : PySem.Str, d = .str x → x.length ≤ 16000
theorem Th.tx {K : Frag} {H : Hp} {v : V} {d : PyData} (h : Th K H v d) (x : PySem.Str) (e : d = .str x) : x.length + 2 ≤ sizeLine := Nat.le_trans (Nat.add_le_add_right (h.t6 x e) 2) (by decide)
theorem Th.same {K : Frag} {H H' : Hp} {v : V} {d : PyData} (e : Same H H') (h : Th K H v d) : Th K H' v d := ⟨DV.same e h.dv, h.sh, h.dp, h.ln, h.t6⟩
/-- its signs, if it is a text -/
def txt? : PyData → Option (List Nat)
  | .str x => some x.cps.toList
  | _ => none
theorem txt_none {d : PyData} (h : isS d = false) : txt? d = none := by
  cases d with
  | str x => cases h
  | _ => rfl
theorem dv_str {K : Frag} {H : Hp} {v : V} {d : PyData} (h : DV K H v d) (e : isS d = true) : ∃ l : List Nat, v = .str (SX.S l) ∧ d = .str (SX.S l) ∧ txt? d = some l := by
  cases h with
  | str x => exact ⟨x.cps.toList, by rw [SX.S_tl], by rw [SX.S_tl], rfl⟩
  | _ => cases e
/-- isinstance(x, str) -/
theorem is_str {K : Frag} {H : Hp} {v : V} {d : PyData} (h : DV K H v d) {Q : VK} (q : Q (.bl (isS d)) H) : rIsi K [v, .ty "str"] H Q := ⟨v, .ty "str", .type (tyN d), .type "str", isS d, rfl, .ty "str", dv_ty h, kit_str K d, q⟩
theorem log_dec {n : Int} (h : n.natAbs < 10 ^ 500) : n.natAbs.log2 < 1920 := by
  have h2 : n.natAbs < 2 ^ 1920 := Nat.lt_of_lt_of_le h (by decide +kernel)
  exact PySem.Flt.log2_lt_of (by decide) h2
theorem pow_dec {n : Int} (h : n.natAbs < 10 ^ 1000) : n.natAbs < 2 ^ 8000 := Nat.lt_of_lt_of_le h (by decide +kernel)
theorem decs_len {ns : List Int} (h : ∀ n ∈ ns, n.natAbs < 10 ^ 1000) : ((ns.map dec).map (·.length)).sum ≤ ns.length * 1001 := by
  induction ns with
  | nil => exact Nat.le_refl _
  | cons n r ih =>
    have h1 := SmM.decL_len (n := n) (k := 1000) (by decide) (h n (List.mem_cons_self ..))
    have h2 := ih fun m hm => h m (List.mem_cons_of_mem _ hm)
    rw [List.map_cons, List.map_cons, List.sum_cons, List.length_cons, show dec n = SX.S (SmM.decL n) from SmM.dec_S n, SX.S_len, Nat.add_mul]
    omega
theorem list_fits {ns : List Int} (h : ∀ n ∈ ns, n.natAbs < 10 ^ 1000) (hl : ns.length ≤ 16001) : (listText (ns.map dec)).length ≤ sizeLine := by
  have h1 := listText_len_le (ns.map dec)
  have h2 := decs_len h
  rw [List.length_map] at h1
  rw [sizeLine_eq]
  omega
theorem tuple_fits {ns : List Int} (h : ∀ n ∈ ns, n.natAbs < 10 ^ 1000) (hl : ns.length ≤ 16001) : (tupleText (ns.map dec)).length ≤ sizeLine := by
  have h1 := tupleText_len_le (ns.map dec)
  have h2 := decs_len h
  rw [List.length_map] at h1
  rw [sizeLine_eq]
  omega
theorem great_dec {n : Int} (h : n.natAbs < 10 ^ 1000) : n.natAbs < 10 ^ 4300 := Nat.lt_of_lt_of_le h (Nat.pow_le_pow_right (n := 10) (by decide) (by decide : 1000 ≤ 4300))
end SmA

/-! What was made since; any data that a law draws. -/
namespace SmA
open PySem PySem.W PySem.Calls PyProof.Rows L2
/-- what stands in H' and did not in H -/
def nw (H H' : Hp) : Hp := fun b => match H b with
  | none => H' b
  | some _ => none
theorem nw_of {H H' : Hp} {b : Addr} (h : H b = none) : nw H H' b = H' b := by
  unfold nw
  rw [h]
theorem nw_out {H H' : Hp} {b : Addr} {o : HO} (h : nw H H' b = some o) : H b = none ∧ H' b = some o := by
  unfold nw at h
  cases e : H b with
  | none => rw [e] at h; exact ⟨rfl, h⟩
  | some u => rw [e] at h; cases h
theorem nw_all (H H' : Hp) : Same (nw H H') H' := fun b o h => (nw_out h).2
/-- nothing goes away -/
def Grow (H H' : Hp) : Prop := ∀ b, H' b = none → H b = none
theorem Grow.refl (H : Hp) : Grow H H := fun _ h => h
theorem Grow.trans {H H1 H2 : Hp} (a : Grow H H1) (b : Grow H1 H2) : Grow H H2 := fun c h => a c (b c h)
theorem Same.grow {H H' : Hp} (s : Same H H') : Grow H H' := fun b h => s.free h
theorem Kp.grow {K : Frag} {p c : Addr} {H H' : Hp} {n : Nat} (k : Kp p H H') (pen : Pen K H' p c n) : Grow H H' := fun b h => by
  cases e : H b with
  | none => rfl
  | some o =>
    by_cases eb : b = p
    · obtain ⟨kvs, hp⟩ := pen.at
      rw [eb, hp] at h
      cases h
    · have := k b o eb e
      rw [h] at this
      cases this
theorem nw_more {H H1 H2 : Hp} (s : Same H1 H2) : Same (nw H H1) (nw H H2) := fun b o h => by
  obtain ⟨h1, h2⟩ := nw_out h
  rw [nw_of h1]
  exact s b o h2
theorem nw_kp {H H1 H2 : Hp} {p : Addr} (hp : H p ≠ none) (k : Kp p H1 H2) : Same (nw H H1) (nw H H2) := fun b o h => by
  obtain ⟨h1, h2⟩ := nw_out h
  rw [nw_of h1]
  exact k b o (fun e => hp (by rw [← e]; exact h1)) h2
theorem nw_back {H H0 H1 : Hp} (g : Grow H0 H) : Same (nw H H1) (nw H0 H1) := fun b o h => by
  obtain ⟨h1, h2⟩ := nw_out h
  rw [nw_of (g b h1)]
  exact h2
theorem nw_new {H H1 : Hp} {q : Addr} {o : HO} (g : Grow H H1) (hq : H1 q = none) : nw H (upd H1 q o) q = some o := by
  rw [nw_of (g q hq)]
  exact upd_same
theorem nw_put {H H1 : Hp} {D : Addr} {o : HO} (hD : H D ≠ none) : Same (nw H H1) (nw H (upd H1 D o)) := fun b u h => by
  obtain ⟨h1, h2⟩ := nw_out h
  rw [nw_of h1, upd_ne (fun e => hD (by rw [← e]; exact h1))]
  exact h2

/-- data no deeper and no longer than level j allows -/
structure Dat (j : Nat) (d : PyData) : Prop where
  sh : d.showable = true
  dp : d.depth ≤ 2 * j + 2
  ln : d.shown.length ≤ 100 * 4 ^ j
  tx : ∀ x : PySem.Str, d = .str x → x.length ≤ 16000
theorem Dat.mono {i j : Nat} {d : PyData} (h : Dat i d) (e : i ≤ j) : Dat j d :=
  ⟨h.sh, by have := h.dp; omega, Nat.le_trans h.ln (Nat.mul_le_mul_left _ (Nat.pow_le_pow_right (by decide) e)), h.tx⟩
def scalOk : V → Bool
  | .non => true
  | .bl _ => true
  | .int i => decide (i.natAbs < 10 ^ 41)
  | .str x => decide ((reprText x).length ≤ 100) && decide (x.length ≤ 100)
  | _ => false
theorem scal_data {K : Frag} {v : V} (h : scalOk v = true) : ∃ d, (∀ H, DV K H v d) ∧ Dat 0 d := by
  cases v with
  | non => exact ⟨.none, fun _ => .non, by simp [PyData.showable], by simp [PyData.depth], by rw [PyData.shown_none]; decide +kernel, fun _ e => by cases e⟩
  | bl b => exact ⟨.bool b, fun _ => .bl b, by simp [PyData.showable], by simp [PyData.depth], by rw [PyData.shown_bool]; cases b <;> decide +kernel, fun _ e => by cases e⟩
  | int i =>
    have z : i.natAbs < 10 ^ 41 := of_decide_eq_true h
    have z5 : i.natAbs < 10 ^ 500 := Nat.lt_of_lt_of_le z (Nat.pow_le_pow_right (n := 10) (by decide) (by decide : 41 ≤ 500))
    refine ⟨.int i, fun _ => .int i, ?_, by simp [PyData.depth], ?_, fun _ e => by cases e⟩
    · rw [PyData.showable]
      exact decide_eq_true (log_dec z5)
    · rw [PyData.shown_int]
      show (PySem.Str.ofString (toString i)).length ≤ _
      rw [SmM.dec_S, SX.S_len]
      have := SmM.decL_len (k := 41) (by decide) z
      omega
  | str x =>
    have z : (decide ((reprText x).length ≤ 100) && decide (x.length ≤ 100)) = true := h
    rw [Bool.and_eq_true, decide_eq_true_eq, decide_eq_true_eq] at z
    refine ⟨.str x, fun _ => .str x, by simp [PyData.showable], by simp [PyData.depth], by rw [PyData.shown_str]; exact z.1, fun y e => ?_⟩
    injection e with e
    rw [← e]
    omega
  | _ => cases h

theorem dats_sh {j : Nat} : ∀ {ds : List PyData}, (∀ d ∈ ds, Dat j d) → PyData.showableAll ds = true
  | [], _ => by simp [PyData.showableAll]
  | d :: r, h => by
    rw [PyData.showableAll, (h d (List.mem_cons_self ..)).sh, dats_sh (ds := r) fun x hx => h x (List.mem_cons_of_mem _ hx)]
    rfl
theorem dats_dp {j : Nat} : ∀ {ds : List PyData}, (∀ d ∈ ds, Dat j d) → PyData.depthAll ds ≤ 2 * j + 2
  | [], _ => by simp [PyData.depthAll]
  | d :: r, h => by
    have h1 := (h d (List.mem_cons_self ..)).dp
    have h2 := dats_dp (ds := r) fun x hx => h x (List.mem_cons_of_mem _ hx)
    rw [PyData.depthAll]
    omega
theorem dats_ln {j : Nat} : ∀ {ds : List PyData}, (∀ d ∈ ds, Dat j d) → ((PyData.shownAll ds).map (·.length)).sum ≤ ds.length * (100 * 4 ^ j)
  | [], _ => by simp [PyData.shownAll]
  | d :: r, h => by
    have h1 := (h d (List.mem_cons_self ..)).ln
    have h2 := dats_ln (ds := r) fun x hx => h x (List.mem_cons_of_mem _ hx)
    rw [PyData.shownAll_cons, List.map_cons, List.sum_cons, List.length_cons, Nat.add_mul]
    omega
/-- of at most three such: a tuple, a list, a tuple in a dict -/
theorem dat_tup {j : Nat} {ds : List PyData} (h : ∀ d ∈ ds, Dat j d) (h3 : ds.length ≤ 3) : Dat (j + 1) (.tuple ds) ∧ (PyData.tuple ds).depth ≤ 2 * j + 3 ∧ (PyData.tuple ds).shown.length ≤ 3 * (100 * 4 ^ j) + 9 := by
  have p : 0 < 4 ^ j := Nat.pow_pos (by decide)
  have h1 := dats_dp h
  have h2 := dats_ln h
  have a1 : (PyData.tuple ds).depth ≤ 2 * j + 3 := by rw [PyData.depth]; omega
  have a2 : (PyData.tuple ds).shown.length ≤ 3 * (100 * 4 ^ j) + 9 := by
    have e : (PyData.tuple ds).shown = tupleText (PyData.shownAll ds) := by simp only [PyData.shown]
    rw [e]
    have h4 := tupleText_len_le (PyData.shownAll ds)
    rw [PyData.shownAll_length] at h4
    have h5 : ds.length * (100 * 4 ^ j) ≤ 3 * (100 * 4 ^ j) := Nat.mul_le_mul_right _ h3
    omega
  refine ⟨⟨by rw [PyData.showable]; exact dats_sh h, by omega, ?_, fun _ e => by cases e⟩, a1, a2⟩
  rw [Nat.pow_succ]
  omega
theorem dat_list {j : Nat} {ds : List PyData} (h : ∀ d ∈ ds, Dat j d) (h3 : ds.length ≤ 3) : Dat (j + 1) (.list ds) := by
  have p : 0 < 4 ^ j := Nat.pow_pos (by decide)
  have h1 := dats_dp h
  have h2 := dats_ln h
  refine ⟨by rw [PyData.showable]; exact dats_sh h, by rw [PyData.depth]; omega, ?_, fun _ e => by cases e⟩
  have e : (PyData.list ds).shown = listText (PyData.shownAll ds) := by simp only [PyData.shown]
  rw [e, Nat.pow_succ]
  have h4 := listText_len_le (PyData.shownAll ds)
  rw [PyData.shownAll_length] at h4
  have h5 : ds.length * (100 * 4 ^ j) ≤ 3 * (100 * 4 ^ j) := Nat.mul_le_mul_right _ h3
  omega
theorem strLen_cat (a b : PySem.Str) : (a ++ b).length = a.length + b.length := by
  rw [TL.len_tl, TL.tl_append, List.length_append, ← TL.len_tl, ← TL.len_tl]
theorem dat_dict {j : Nat} {ds : List PyData} (h : ∀ d ∈ ds, Dat j d) (h3 : ds.length ≤ 3) : Dat (j + 1) (.dict [(.str "a", .tuple ds)]) := by
  have p : 0 < 4 ^ j := Nat.pow_pos (by decide)
  obtain ⟨t1, t2, t3⟩ := dat_tup h h3
  refine ⟨?_, ?_, ?_, fun _ e => by cases e⟩
  · rw [PyData.showable, PyData.showableKv, PyData.showableKv, t1.sh]
    simp [PyData.showable]
  · rw [PyData.depth, PyData.depthKv, PyData.depthKv]
    have e : (PyData.str "a").depth = 0 := by simp [PyData.depth]
    rw [e]
    omega
  · rw [PyData.shown_dict, PyData.shownKv_cons, PyData.shownKv_nil, PyData.shown_str]
    show (_ ++ (_ ++ _ ++ (PyData.tuple ds).shown) ++ _).length ≤ _
    rw [strLen_cat, strLen_cat, strLen_cat, strLen_cat]
    have e1 : ("{" : PySem.Str).length = 1 := by decide +kernel
    have e2 : (reprText "a").length = 3 := by decide +kernel
    have e3 : (": " : PySem.Str).length = 2 := by decide +kernel
    have e4 : ("}" : PySem.Str).length = 1 := by decide +kernel
    rw [e1, e2, e3, e4, Nat.pow_succ]
    omega
theorem dat_d0 : Dat 0 (.dict []) := ⟨by rw [PyData.showable, PyData.showableKv], by rw [PyData.depth, PyData.depthKv]; decide, by rw [PyData.shown_dict, PyData.shownKv_nil]; decide +kernel, fun _ e => by cases e⟩
theorem Dat.th {K : Frag} {H : Hp} {v : V} {j : Nat} {d : PyData} (h : Dat j d) (dv : DV K H v d) (hj : j ≤ 5) : Th K H v d := by
  have p : 4 ^ j ≤ 4 ^ 5 := Nat.pow_le_pow_right (by decide) hj
  refine ⟨dv, h.sh, by have := h.dp; omega, ?_, h.tx⟩
  have := h.ln
  rw [sizeLine_eq]
  omega
end SmA

/-! A sign many times; lengths of joined words. -/
namespace SmA
open PySem PySem.W PySem.Calls PyProof.Rows L2 SX
theorem rep_arr (c : Nat) : ∀ (k : Nat) (acc : Array Nat), (List.replicate k #[c]).foldl (· ++ ·) acc = acc ++ (List.replicate k c).toArray
  | 0, acc => by simp
  | k + 1, acc => by
    rw [List.replicate_succ, List.foldl_cons, rep_arr c k, List.replicate_succ]
    apply Array.ext'
    simp
/-- c * n, c one sign -/
def rMulS : R2 := fun x y H Q => ∃ (c : Nat) (n : Int), x = .str (S [c]) ∧ y = .int n ∧ 2 ≤ n ∧ n ≤ 100000 ∧ Q (.str (S (List.replicate n.toNat c))) H
theorem op_mulS {X : Cx} : OpR X (binaryOp .Mult) rMulS := by
  intro pins s σ H x y v u Q I rx ry h
  obtain ⟨c, n, rfl, rfl, n2, n5, q⟩ := h
  obtain ⟨t1, rfl⟩ := rx
  obtain ⟨t2, rfl⟩ := ry
  have hl : (S [c]).length = 1 := rfl
  refine P.mul_str (by rw [decide_eq_false (by omega), decide_eq_false (by omega)]; rfl) (fun _ _ => ?_) (fun _ _ => ?_) ?_
  · rw [hl]
    have : (1 : Int) ≤ (2 ^ 63 - 1) / n := (Int.le_ediv_iff_mul_le (by omega)).mpr (by omega)
    omega
  · rw [hl]
    unfold Builtin.Str.tooLong
    rw [sizeLine_eq]
    exact decide_eq_false (by omega)
  · rw [if_neg (by omega), if_neg (by
      rw [hl]
      intro z
      rw [Bool.or_eq_true] at z
      rcases z with z | z
      · have := eq_of_beq z
        omega
      · cases z)]
    have e : (⟨(List.replicate n.toNat (S [c]).cps).foldl (· ++ ·) #[]⟩ : PySem.Str) = S (List.replicate n.toNat c) := by
      show (⟨(List.replicate n.toNat #[c]).foldl (· ++ ·) #[]⟩ : PySem.Str) = _
      rw [rep_arr]
      rw [Array.empty_append]
    rw [e]
    refine ⟨?_, ⟨.str (S (List.replicate n.toNat c)), H, I.tok _, ⟨_, rfl⟩, q⟩⟩
    first
      | (rw [S_len, List.length_replicate, sizeLine_eq]; omega)
      | skip
/-- lengths of words, and one for each -/
def tot (ws : List PySem.Str) : Nat := (ws.map (·.length)).sum + ws.length
theorem tot_app (a b : List PySem.Str) : tot (a ++ b) = tot a + tot b := by
  unfold tot
  rw [List.map_append, List.sum_append, List.length_append]
  omega
theorem tot_take (ws : List PySem.Str) (k : Nat) : tot (ws.take k) ≤ tot ws := by
  have e := tot_app (ws.take k) (ws.drop k)
  rw [List.take_append_drop] at e
  omega
theorem tot_drop (ws : List PySem.Str) (k : Nat) : tot (ws.drop k) ≤ tot ws := by
  have e := tot_app (ws.take k) (ws.drop k)
  rw [List.take_append_drop] at e
  omega
theorem tot_one (w : PySem.Str) : tot [w] = w.length + 1 := by
  unfold tot
  simp
theorem tot_mem {ws : List PySem.Str} {w : PySem.Str} (h : w ∈ ws) : w.length + 1 ≤ tot ws := by
  obtain ⟨a, b, rfl⟩ := List.append_of_mem h
  rw [show a ++ w :: b = a ++ ([w] ++ b) from rfl, tot_app, tot_app, tot_one]
  omega
theorem join_tot : ∀ ws : List PySem.Str, (Txt.join (PySem.Str.ofString " ") ws).length ≤ tot ws := by
  intro ws
  rw [TL.join_eq]
  induction ws with
  | nil => exact Nat.zero_le _
  | cons w r ih =>
    cases r with
    | nil =>
      show w.length ≤ _
      rw [tot_one]
      omega
    | cons v r =>
      show (w ++ PySem.Str.ofString " " ++ Str.join _ (v :: r)).length ≤ _
      rw [show w :: v :: r = [w] ++ (v :: r) from rfl, tot_app, tot_one, TL.len_tl, TL.tl_append, TL.tl_append, List.length_append, List.length_append, ← TL.len_tl, ← TL.len_tl, ← TL.len_tl]
      have e : (PySem.Str.ofString " ").length = 1 := by decide +kernel
      omega
theorem spl_total (s : Nat) : ∀ (n : Nat) (l : List Nat), l.length ≤ n → ((TL.spl [s] 0 [] l).map (·.length)).sum + (TL.spl [s] 0 [] l).length = l.length + 1
  | n, l, h => by
    rcases SmM.cut_first s l with k | ⟨p, q, rfl, k⟩
    · rw [TL.spl_last1 k, List.nil_append]
      simp
    · rw [TL.spl_part1 (S := []) k, List.nil_append]
      rw [List.length_append, List.length_append, List.length_singleton] at h ⊢
      match n, h with
      | 0, h => omega
      | n + 1, h =>
        have ih := spl_total s n q (by omega)
        rw [List.map_cons, List.sum_cons, List.length_cons]
        omega
theorem tot_words (l : List Nat) : tot ((TL.spl [32] 0 [] l).map S) = l.length + 1 := by
  unfold tot
  rw [List.map_map, List.length_map]
  have e : (TL.spl [32] 0 [] l).map ((fun x : PySem.Str => x.length) ∘ S) = (TL.spl [32] 0 [] l).map (·.length) := List.map_congr_left fun x _ => S_len x
  rw [e]
  exact spl_total 32 _ l (Nat.le_refl _)
/-- a slice of words is words -/
theorem cut_strs (ws : List PySem.Str) (lo hi : Option Int) : ∃ us : List PySem.Str, cutV (ws.map V.str) lo hi = us.map V.str ∧ tot us ≤ tot ws ∧ us.length ≤ ws.length ∧ ∀ u ∈ us, u ∈ ws := by
  unfold cutV
  rw [← List.map_drop, ← List.map_take]
  refine ⟨_, rfl, Nat.le_trans (tot_take _ _) (tot_drop _ _), ?_, fun u hu => List.mem_of_mem_drop (List.mem_of_mem_take hu)⟩
  rw [List.length_take, List.length_drop]
  omega
theorem slice_le (x : PySem.Str) (lo hi : Option Int) : (Txt.slice x lo hi).length ≤ x.length := by
  rw [← C8.cutS_slice]
  exact cutS_length x lo hi
theorem str_cat_len (a b : PySem.Str) : (a ++ b).length = a.length + b.length := by
  rw [TL.len_tl, TL.tl_append, List.length_append, ← TL.len_tl, ← TL.len_tl]
/-- all signs below 128 -/
def Lo (x : PySem.Str) : Prop := ∀ c ∈ x.cps.toList, c < 128
theorem Lo.cat {a b : PySem.Str} (ha : Lo a) (hb : Lo b) : Lo (a ++ b) := fun c hc => by
  have e : (a ++ b).cps.toList = a.cps.toList ++ b.cps.toList := TL.tl_append a b
  rw [e] at hc
  rcases List.mem_append.mp hc with h | h
  · exact ha c h
  · exact hb c h
theorem Lo.of {x : PySem.Str} (h : x.cps.toList.all (fun c => decide (c < 128)) = true) : Lo x := fun c hc => of_decide_eq_true (List.all_eq_true.mp h c hc)
theorem lo_S {l : List Nat} (h : ∀ c ∈ l, c < 128) : Lo (S l) := fun c hc => h c hc
theorem Lo.slice {x : PySem.Str} (h : Lo x) (lo hi : Option Int) : Lo (Txt.slice x lo hi) := fun c hc => by
  rw [← C8.cutS_slice] at hc
  exact h c (List.mem_of_mem_drop (List.mem_of_mem_take (show c ∈ (x.cps.toList.drop _).take _ from hc)))
theorem Lo.join {ws : List PySem.Str} (h : ∀ w ∈ ws, Lo w) : Lo (Txt.join (PySem.Str.ofString " ") ws) := by
  rw [TL.join_eq]
  induction ws with
  | nil => exact fun c hc => by cases hc
  | cons w r ih =>
    cases r with
    | nil => exact h w (List.mem_cons_self ..)
    | cons v r => exact ((h w (List.mem_cons_self ..)).cat (Lo.of (by decide +kernel))).cat (ih fun u hu => h u (List.mem_cons_of_mem _ hu))
end SmA

namespace K90
open PySem L2 SmA
def top (i : Nat) : Stmt := PySem.Challenge.pw_stepmaps_k90_fractions_and_chains_as_tex.main.body.getD i (.Pass ⟨0, 0, 0, 0⟩)
/-- the built-ins' names as the top has left them -/
structure Nm (K : PySem.W.Frag) (mg : PySem.Str → Option Value) (base : Heap) : Prop where
  n_list : mg "list" = none
  n_len : mg "len" = none
  n_abs : mg "abs" = none
  n_range : mg "range" = none
  n_tuple : mg "tuple" = none
  n_str : mg "str" = none
  n_int : mg "int" = none
  n_repr : mg "repr" = none
  n_isinstance : mg "isinstance" = none
  n_all : mg "all" = none
  dig : SmA.NoDig K
  sys : SmA.SysB base
section
variable {P : Program} {w : World} {K : PySem.W.Frag} {mg : PySem.Str → Option Value} {base : Heap} {f : Addr}
abbrev st_pen : Stmt := top 15
theorem sc_pen : FnScope ["script"] ["script"] (defScope st_pen) := ⟨rfl, rfl, rfl, by decide +kernel, rfl, by decide +kernel, by decide +kernel⟩
theorem ok_pen (a : At K mg "_law_pen" st_pen ["script"] f) (T : Nm K mg base) : Df P w K mg base CX0 1 "_law_pen" f (spPen K) := by
  refine a.ok sc_pen (fun vs H Q E h => ?_) (fun cdv A outer s H vs Q E hr h => ?_)
  · obtain ⟨a, ns, rfl, _⟩ := h
    rfl
  · obtain ⟨a, ns, rfl, hs, k⟩ := h
    refine ⟨_, (pss_one (ps_ret (pe_disp (pps_cons pe_str (pe_callTy call_list_of (by rfl) T.n_list (by decide +kernel) (pa_cons (pe_slice sl_list (pv 0) po_none (po_some pe_int)) pa_nil)) (pps_cons pe_str pe_int (pps_cons pe_str pe_int pps_nil))) (by rfl) (by rfl) (fun z => by cases z) (by decide)))), ?_⟩
    intro p hp
    have nap : SqL K (upd H p (.dK [])) a (ns.map V.int) := (Same.seq (fun b o e => by rw [upd_ne (ne_of_none e hp)]; exact e) hs)
    refine ⟨_, rfl, 63, rfl, a, _, rfl, nap, fun c hc => ?_⟩
    refine ⟨c, _, rfl, .inl (SqL.of upd_same), fun l hl => ?_⟩
    have h0 : H c = none := by
      by_cases e : c = p
      · rw [e]; exact hp
      · rw [upd_ne e] at hc; exact hc
    have ncp : c ≠ p := fun e => by rw [e, upd_same] at hc; cases hc
    have nlc : l ≠ c := fun e => by rw [e, upd_same] at hl; cases hl
    rw [upd_ne nlc] at hl
    have nlp : l ≠ p := fun e => by rw [e, upd_same] at hl; cases hl
    refine ⟨by rw [upd_ne nlp.symm, upd_ne ncp.symm, upd_same], [(.inr "cells", .ref l), (.inr "turn", .int 0), (.inr "left", .int 0)], rfl, (by show 3 ≤ 15; decide), ?_⟩
    rw [merge_pen]
    have cut : cutV (ns.map V.int) none (some 63) = (ns.take 63).map V.int := by rw [List.map_take]; exact cut_to _ 63
    refine k _ l _ hp (fun b o e => ?_) ⟨ns.take 63, 0, 0, upd_same, ?_, by rw [List.length_take]; omega, by omega, by omega, by omega⟩
    · have h1 := ne_of_none e hp
      have h2 := ne_of_none e h0
      have h3 : b ≠ l := fun q => by
        rw [← q, upd_ne h1] at hl
        rw [e] at hl; cases hl
      rw [upd_ne h1, upd_ne h3, upd_ne h2, upd_ne h1]
      exact e
    · rw [← cut, upd_ne nlp, upd_same]

abbrev st_draw : Stmt := top 16
theorem sc_draw : FnScope ["pen", "many", "digit", "turn", "cell", "primes", "prime", "drawn"] ["pen", "many"] (defScope st_draw) := ⟨rfl, rfl, rfl, by decide +kernel, rfl, by decide +kernel, by decide +kernel⟩
theorem ok_draw (a : At K mg "_law_draw" st_draw ["pen", "many"] f) (T : Nm K mg base) : Df P w K mg base CX0 1 "_law_draw" f (spDraw K) := by
  have nd := sc_draw.nd
  refine a.ok sc_draw (fun vs H Q E h => ?_) (fun cdv A outer s H vs Q E hr h => ?_)
  · obtain ⟨p, c, m, n, rfl, _⟩ := h
    rfl
  · have hu := hu_of hr
    obtain ⟨p, c, m, n, rfl, ⟨cs, t, l, hp, hcc, len, t0, tn, l0⟩, n40, m0, mb, k⟩ := h
    have hc : SqL K H c (cs.map V.int) := SqL.of hcc
    have ncp : c ≠ p := ne_of hcc hp (by intro z; cases z)
    have tb : t < 2 ^ 40 := by
      have : (n : Int) < 2 ^ 40 := by exact_mod_cast n40
      omega
    refine ⟨_, (pss_cons (ps_if (pt_cmpR op_gt (pe_dget hu (pv 0) pe_str (fun _ _ => rfl)) pe_int (nomark _)) (pss_cons (ps_set (i := 2) nd rfl (Or.inl rfl) (pe_op op_mod (pe_dget hu (pv 0) pe_str (fun _ _ => rfl)) (pv 1)))
    (pss_cons (ps_dput hu (pv 0) pe_str (pe_op op_fdivW (pe_dget hu (pv 0) pe_str (fun _ _ => rfl)) (pv 1)) rfl)
    (pss_one (ps_ret (pv 2))))) pss_nil)
    (pss_cons (ps_set (i := 3) nd rfl (Or.inl rfl) (pe_dget hu (pv 0) pe_str (fun _ _ => rfl)))
    (pss_cons (ps_dput hu (pv 0) pe_str (pe_op op_add (pv 3) pe_int) rfl)
    (pss_cons (ps_set (i := 4) nd rfl (Or.inl rfl) (pe_op op_add (pe_op op_mul pe_int (pv 3)) pe_int))
    (C8.pss_cut (ps_if (pt_cmpR (op_neD hr.units) (pe_dget hu (pv 0) pe_str (fun _ _ => rfl)) (pe_lst pa_nil) (nomark _)) (pss_one (ps_set (i := 4) nd rfl (Or.inl rfl) (pe_ix ix_list (pe_dget hu (pv 0) pe_str (fun _ _ => rfl)) (pe_op op_mod (pv 3) (pe_callB call_len_seq (by rfl) T.n_len PySem.boot_len (pa_cons (pe_dget hu (pv 0) pe_str (fun _ _ => rfl)) pa_nil))) (fun _ _ => rfl)))) pss_nil)
    (C8.pss_cut (ps_if (PW.pt (pw_and (pt_cmpR op_lt (pv 3) (pe_callB call_len_seq (by rfl) T.n_len PySem.boot_len (pa_cons (pe_dget hu (pv 0) pe_str (fun _ _ => rfl)) pa_nil)) (nomark _)) (pw_and1 (pt_cmpR op_ge (pe_callB call_abs (by rfl) T.n_abs (by decide +kernel) (pa_cons (pv 4) pa_nil)) (pe_op op_pow pe_int pe_int) (nomark _))))) (pss_cons (ps_dput hu (pv 0) pe_str (pe_op op_fdivW (pe_op op_sub (pe_callB call_abs (by rfl) T.n_abs (by decide +kernel) (pa_cons (pv 4) pa_nil)) (pe_op op_pow pe_int pe_int)) (pv 1)) rfl)
    (pss_one (ps_ret (pe_op op_mod (pe_op op_sub (pe_callB call_abs (by rfl) T.n_abs (by decide +kernel) (pa_cons (pv 4) pa_nil)) (pe_op op_pow pe_int pe_int)) (pv 1))))) pss_nil)
    (pss_cons (ps_set (i := 5) nd rfl (Or.inl rfl) (pe_lst (pa_cons pe_int (pa_cons pe_int (pa_cons pe_int (pa_cons pe_int (pa_cons pe_int pa_nil)))))))
    (pss_cons (ps_set (i := 6) nd rfl (Or.inl rfl) (pe_ix ix_list (pv 5) (pe_op op_mod (pv 3) pe_int) (fun _ _ => rfl)))
    (pss_cons (ps_set (i := 7) nd rfl (Or.inl rfl) (pe_op op_mod (pe_op op_add (pe_op op_add (pe_op op_mul (pe_op op_mod (pv 4) (pv 6)) pe_int) (pe_op op_mul (pe_op op_mul pe_int (pv 3)) (pv 3))) pe_int) (pv 6)))
    (pss_cons (ps_set (i := 7) nd rfl (Or.inl rfl) (pe_op op_mod (pe_op op_mul (pv 7) (pe_op op_add (pv 7) pe_int)) (pe_ix ix_list (pv 5) (pe_op op_mod (pe_op op_add (pv 3) pe_int) pe_int) (fun _ _ => rfl))))
    (pss_one (ps_ret (pe_op op_mod (pe_op op_fdivW (pe_op op_mod (pe_op op_mul (pv 7) (pv 7)) pe_int) pe_int) (pv 1)))))))))))))), ?_⟩
    refine ⟨_, rfl, p, _, rfl, get_left hp, _, _, rfl, rfl, _, rfl, ite2 (fun _ => ?_) (fun _ => ?_)⟩
    · refine ⟨_, rfl, p, _, rfl, get_left hp, _, rfl, _, _, rfl, rfl, m0, ?_⟩
      refine ⟨_, rfl, p, _, rfl, get_left hp, _, rfl, _, _, rfl, rfl, div_w m0 mb, _, rfl, p, _, rfl, put_left hp, _, rfl, ?_⟩
      exact k _ _ (mod_lo _ m0) (mod_hi _ m0) (Kp.refl p H).put ⟨cs, t, _, upd_same, by rw [upd_ne ncp]; exact hcc, len, t0, by push_cast; omega, div_lo l0 m0⟩
    · -- turn = pen['turn']; pen['turn'] = turn + 1; cell = 41 * turn + 17
      refine ⟨_, rfl, p, _, rfl, get_turn hp, ?_⟩
      refine ⟨_, rfl, _, _, rfl, rfl, _, rfl, p, _, rfl, put_turn hp, ?_⟩
      have hp1 : upd H p (.dK (penV c (t + 1) l)) p = some (.dK (penV c (t + 1) l)) := upd_same
      have hc1 : SqL K (upd H p (.dK (penV c (t + 1) l))) c (cs.map V.int) := seq_put hc hp
      have k1 : Kp p H (upd H p (.dK (penV c (t + 1) l))) := (Kp.refl p H).put
      generalize upd H p (.dK (penV c (t + 1) l)) = H1 at hp1 hc1 k1
      refine ⟨_, rfl, _, _, rfl, rfl, .inl (by decide), _, _, rfl, rfl, ?_⟩
      refine ⟨fun σ' H' => ∃ cell : Int, σ' = [some (.ref p), some (.int m), none, some (.int t), some (.int cell), none, none, none] ∧ H' p = some (.dK (penV c (t + 1) l)) ∧ SqL K H' c (cs.map V.int) ∧ Kp p H H', ?_, ?_⟩
      · refine ⟨_, rfl, p, _, rfl, get_cells hp1, Nat.zero_le _, fun q hq => ?_⟩
        have hp2 : (upd H1 q (.lst [])) p = some (.dK (penV c (t + 1) l)) := by rw [upd_ne (ne_of_none hp1 hq)]; exact hp1
        have hc2 : SqL K (upd H1 q (.lst [])) c (cs.map V.int) := Same.seq (fun b o e => by rw [upd_ne (ne_of_none e hq)]; exact e) hc1
        have k2 : Kp p H (upd H1 q (.lst [])) := k1.new hq
        have hq2 : (upd H1 q (.lst [])) q = some (.lst []) := upd_same
        generalize upd H1 q (.lst []) = H2 at hp2 hc2 k2 hq2
        refine ⟨_, _, .lst hc2 (dps_ints cs), .lst (SqL.of hq2) .nil, shaped_ints cs, by decide, _, rfl, ?_⟩
        by_cases e : cs = []
        · subst e
          refine ite2 (fun z => ?_) (fun _ => ⟨_, rfl, hp2, hc2, k2⟩)
          exact absurd z (by decide)
        · have pos : 0 < cs.length := List.length_pos_iff.mpr e
          refine ite2 (fun _ => ?_) (fun _ => ⟨_, rfl, hp2, hc2, k2⟩)
          refine ⟨_, rfl, p, _, rfl, get_cells hp2, _, rfl, _, rfl, p, _, rfl, get_cells hp2, c, _, rfl, .inl hc2, _, _, rfl, rfl, by rw [List.length_map]; omega, ?_⟩
          obtain ⟨z, hz⟩ := int_at (ns := cs) (k := t % (((cs.map V.int).length : Nat) : Int)) (mod_lo _ (by rw [List.length_map]; omega)) (by have := mod_hi t (m := (((cs.map V.int).length : Nat) : Int)) (by rw [List.length_map]; omega); rw [List.length_map] at this ⊢; exact this)
          exact ⟨c, _, _, _, rfl, rfl, hc2, hz, ⟨_, rfl, hp2, hc2, k2⟩⟩
      · rintro σ2 H2 ⟨cell, rfl, hp2, hc2, k2⟩
        clear hp1 hc1 k1 H1 hp hc
        have cp : CPow 10 18 := ⟨by decide, by decide, by decide⟩
        have tk : t + 1 ≤ ((n + 1 : Nat) : Int) := by push_cast; omega
        have rest : ∀ {D : Prop}, D → D := fun d => d
        refine ⟨fun σ' H' => σ' = [some (.ref p), some (.int m), none, some (.int t), some (.int cell), none, none, none] ∧ H' = H2, ?_, ?_⟩
        · refine ⟨_, rfl, _, rfl, p, _, rfl, get_cells hp2, c, _, rfl, .inl hc2, _, _, rfl, rfl, _, rfl, ite2 (fun _ => ?_) (fun _ => iteF ⟨rfl, rfl⟩)⟩
          refine ⟨_, rfl, _, rfl, _, _, rfl, rfl, cp, _, _, rfl, rfl, _, rfl, ite2 (fun z => ?_) (fun _ => ⟨rfl, rfl⟩)⟩
          have big := of_decide_eq_true z
          refine ⟨_, rfl, _, rfl, _, _, rfl, rfl, cp, _, _, rfl, rfl, _, rfl, _, _, rfl, rfl, div_w m0 mb, _, rfl, p, _, rfl, put_left hp2, ?_⟩
          refine ⟨_, rfl, _, rfl, _, _, rfl, rfl, cp, _, _, rfl, rfl, _, rfl, _, _, rfl, rfl, m0, ?_⟩
          exact k _ _ (mod_lo _ m0) (mod_hi _ m0) k2.put ⟨cs, t + 1, _, upd_same, by rw [upd_ne ncp]; exact k2 _ _ ncp hcc, len, by omega, tk, div_lo (by omega) m0⟩
        · rintro σ' H' ⟨rfl, rfl⟩
          refine ⟨(by show 5 ≤ sizeLine; decide), fun q hq => ?_⟩
          obtain ⟨pr, z1, pr0, pr1⟩ := prime_at (mod_lo t (by decide)) (mod_hi t (m := 5) (by decide))
          obtain ⟨pq, z2, pq0, pq1⟩ := prime_at (mod_lo (t + 3) (by decide)) (mod_hi (t + 3) (m := 5) (by decide))
          have hq3 : SqL K (upd H' q (.lst primes)) q primes := SqL.of upd_same
          have hp3 : (upd H' q (.lst primes)) p = some (.dK (penV c (t + 1) l)) := by rw [upd_ne (ne_of_none hp2 hq)]; exact hp2
          have hc3 : SqL K (upd H' q (.lst primes)) c (cs.map V.int) := Same.seq (fun b o e => by rw [upd_ne (ne_of_none e hq)]; exact e) hc2
          have k3 : Kp p H (upd H' q (.lst primes)) := k2.new hq
          refine ⟨_, rfl, _, rfl, _, _, rfl, rfl, (by show (0 : Int) < 5; decide), q, _, _, _, rfl, rfl, hq3, z1, ?_⟩
          refine ⟨_, rfl, _, rfl, _, _, rfl, rfl, pr0, _, _, rfl, rfl, .inr (by decide), _, rfl, _, _, rfl, rfl, .inl (by decide), _, rfl, _, _, rfl, rfl, .inr ⟨by omega, by omega⟩, _, _, rfl, rfl, _, _, rfl, rfl, _, rfl, _, _, rfl, rfl, pr0, ?_⟩
          have b1 := mod_lo (cell % pr * 48271 + 40692 * t * t + 31) pr0
          have b2 := mod_hi (cell % pr * 48271 + 40692 * t * t + 31) pr0
          refine ⟨_, rfl, _, rfl, _, _, rfl, rfl, _, _, rfl, rfl, .inl ⟨?_, ?_⟩, _, rfl, _, rfl, _, _, rfl, rfl, _, _, rfl, rfl, (by show (0 : Int) < 5; decide), q, _, _, _, rfl, rfl, hq3, z2, _, _, rfl, rfl, pq0, ?_⟩
          · show -(2 ^ 64 : Int) < (cell % pr * 48271 + 40692 * t * t + 31) % pr
            omega
          · show (cell % pr * 48271 + 40692 * t * t + 31) % pr < (2 ^ 64 : Int)
            omega
          · generalize (cell % pr * 48271 + 40692 * t * t + 31) % pr = d
            have c1 := mod_lo (d * (d + 69621)) pq0
            have c2 := mod_hi (d * (d + 69621)) pq0
            refine ⟨_, rfl, _, rfl, _, _, rfl, rfl, .inl ⟨?_, ?_⟩, _, _, rfl, rfl, (by show (0 : Int) < 2147483549; decide), _, _, rfl, rfl, div_s (by decide) (by decide), _, rfl, _, _, rfl, rfl, m0, ?_⟩
            · show -(2 ^ 64 : Int) < d * (d + 69621) % pq
              omega
            · show d * (d + 69621) % pq < (2 ^ 64 : Int)
              omega
            · exact k _ _ (mod_lo _ m0) (mod_hi _ m0) k3 ⟨cs, t + 1, l, hp3, k3 _ _ ncp hcc, len, by omega, tk, l0⟩
abbrev st_pick : Stmt := top 17
theorem sc_pick : FnScope ["pen", "options"] ["pen", "options"] (defScope st_pick) := ⟨rfl, rfl, rfl, by decide +kernel, rfl, by decide +kernel, by decide +kernel⟩
theorem ok_pick {g : Addr} (a : At K mg "_law_pick" st_pick ["pen", "options"] f) (T : Nm K mg base) (c__law_draw : Df P w K mg base CX0 1 "_law_draw" g (spDraw K)) : Df P w K mg base CX0 2 "_law_pick" f (spPick K) := by
  refine a.ok sc_pick (fun vs H Q E h => ?_) (fun cdv A outer s H vs Q E hr h => ?_)
  · obtain ⟨p, c, a, xs, n, rfl, _⟩ := h
    rfl
  · obtain ⟨p, c, a, xs, n, rfl, pen, n40, hs, ne, len, k⟩ := h
    refine ⟨_, (pss_one (ps_ret (pe_ix ix_list (pv 1) (pe_k c__law_draw hr (by decide) rfl (pa_cons (pv 0) (pa_cons (pe_callB call_len_seq (by rfl) T.n_len PySem.boot_len (pa_cons (pv 1) pa_nil)) pa_nil))) (fun _ _ => rfl)))), ?_⟩
    have pos : 0 < xs.length := List.length_pos_iff.mpr ne
    refine ⟨_, rfl, _, rfl, _, rfl, a, _, rfl, .inl hs, p, c, _, n, rfl, pen, n40, (by omega), len_pow len, fun v H' v0 vm kp pen' => ?_⟩
    obtain ⟨y, hy, e⟩ := atI_mem v0 vm
    exact ⟨a, xs, v, y, rfl, rfl, kp.seq pen hs, e, k y hy H' kp pen'⟩
theorem ok_pickS {g : Addr} (a : At K mg "_law_pick" st_pick ["pen", "options"] f) (T : Nm K mg base) (c__law_draw : Df P w K mg base CX0 1 "_law_draw" g (spDraw K)) : Df P w K mg base CX0 2 "_law_pick" f (spPickS K) := by
  refine a.ok sc_pick (fun vs H Q E h => ?_) (fun cdv A outer s H vs Q E hr h => ?_)
  · obtain ⟨p, c, x, n, rfl, _⟩ := h
    rfl
  · obtain ⟨p, c, x, n, rfl, pen, n40, pos, len, k⟩ := h
    refine ⟨_, (pss_one (ps_ret (pe_ix ix_str (pv 1) (pe_k c__law_draw hr (by decide) rfl (pa_cons (pv 0) (pa_cons (pe_callB call_len_str (by rfl) T.n_len PySem.boot_len (pa_cons (pv 1) pa_nil)) pa_nil))) (fun _ _ => rfl)))), ?_⟩
    refine ⟨_, rfl, _, rfl, _, rfl, x, rfl, len, p, c, _, n, rfl, pen, n40, (by omega), len_pow len, fun v H' v0 vm kp pen' => ?_⟩
    obtain ⟨y, hy, e⟩ := atI_mem (xs := x.cps.toList) v0 (by simpa [PySem.Str.length] using vm)
    exact ⟨x, v, y, rfl, rfl, len, e, k y hy H' kp pen'⟩
abbrev st_great : Stmt := top 18
theorem sc_great : FnScope ["pen", "figures", "result", "k"] ["pen", "figures"] (defScope st_great) := ⟨rfl, rfl, rfl, by decide +kernel, rfl, by decide +kernel, by decide +kernel⟩
theorem ok_great {g : Addr} (a : At K mg "_law_great" st_great ["pen", "figures"] f) (T : Nm K mg base) (c__law_draw : Df P w K mg base CX0 1 "_law_draw" g (spDraw K)) : Df P w K mg base CX0 2 "_law_great" f (spGreat K) := by
  have nd := sc_great.nd
  refine a.ok sc_great (fun vs H Q E h => ?_) (fun cdv A outer s H vs Q E hr h => ?_)
  · obtain ⟨p, c, n, m, rfl, _⟩ := h
    rfl
  · obtain ⟨p, c, n, m, rfl, pen, n40, m1, k⟩ := h
    refine ⟨_, (pss_cons (ps_set (i := 2) nd rfl (Or.inl rfl) pe_int)
    (pss_cons (ps_for PassesOwn.never rfl (pi_range1 rfl T.n_range (pa_cons (pv 1) pa_nil)) (pg_name (i := 3) nd rfl (Or.inl rfl)) (pss_one (ps_set (i := 2) nd rfl (Or.inl rfl) (pe_op op_add (pe_op op_mul pe_int (pv 2)) (pe_k c__law_draw hr (by decide) rfl (pa_cons (pv 0) (pa_cons pe_int pa_nil)))))))
    (pss_one (ps_ret (pv 2))))), ?_⟩
    refine ⟨_, rfl, m, rfl, by omega, by omega, for_range (lo := 0) (n := m) (fun i σ H' => ∃ (z : Int) (o : Option V), σ = [some (.ref p), some (.int m), some (.int z), o] ∧ 0 ≤ z ∧ z < 10 ^ i ∧ Kp p H H' ∧ Pen K H' p c (n + i)) ?_ ?_ ?_⟩
    · exact ⟨0, none, rfl, by omega, by decide, Kp.refl p H, pen⟩
    · rintro i σ H' hi ⟨z, o, rfl, z0, z1, kp, pen'⟩
      refine ⟨_, rfl, _, _, rfl, rfl, .inl (by decide), _, rfl, p, c, 10, n + i, rfl, pen', by omega, by decide, small_pow (by decide), fun v H2 v0 v1 kp2 pen2 => ⟨_, _, rfl, rfl, 10 * z + v, _, rfl, by omega, ?_, kp.trans kp2, pen2⟩⟩
      rw [Int.pow_succ]
      omega
    · rintro σ H' ⟨z, o, rfl, z0, z1, kp, pen'⟩
      exact ⟨_, rfl, k z H' z0 z1 kp pen'⟩
end
end K90

namespace K90
open PySem L2 SmA SmM SX
section
variable {P : Program} {w : World} {K : PySem.W.Frag} {mg : PySem.Str → Option Value} {base : Heap} {f : Addr}
def spGcd : Sp := fun vs H Q _ => ∃ a b : Int, vs = [.int a, .int b] ∧ Q (.int (g2 a b)) H
def spFrac : Sp := fun vs H Q _ => ∃ a b : Int, vs = [.int a, .int b] ∧ 0 < b ∧ b.natAbs < 2 ^ 8000 ∧ ∀ p, H p = none → Q (.ref p) (upd H p (.tup [.int (a / g2 a b), .int (b / g2 a b)]))
theorem abs_eq (i : Int) : (if i < 0 then -i else i) = (i.natAbs : Int) := by split <;> omega
theorem gcd_step {a b : Int} (ha : 0 ≤ a) (hb : 0 < b) : g2 b (a % b) = g2 a b := by
  unfold g2
  rw [Int.gcd_comm b, Int.emod_def, show a - b * (a / b) = a + b * (-(a / b)) by rw [Int.mul_neg]; omega, Int.gcd_add_mul_left_left]
theorem gcd_end {a b : Int} (ha : 0 ≤ a) (hb : ¬ 0 < b) (hb0 : 0 ≤ b) : g2 a b = a := by
  have : b = 0 := by omega
  subst this
  unfold g2
  rw [Int.gcd_zero_right]
  omega
theorem g2_abs (a b : Int) : g2 (a.natAbs : Int) (b.natAbs : Int) = g2 a b := rfl
abbrev st_gcd : Stmt := top 3
theorem sc_gcd : FnScope ["first", "second"] ["first", "second"] (defScope st_gcd) := ⟨rfl, rfl, rfl, by decide +kernel, rfl, by decide +kernel, by decide +kernel⟩
theorem ok_gcd (a : At K mg "gcd" st_gcd ["first", "second"] f) (T : Nm K mg base) : Df P w K mg base CX0 1 "gcd" f spGcd := by
  have nd := sc_gcd.nd
  refine a.ok sc_gcd (fun vs H Q E h => ?_) (fun cdv A outer s H vs Q E hr h => ?_)
  · obtain ⟨a, b, rfl, _⟩ := h
    rfl
  · obtain ⟨a, b, rfl, k⟩ := h
    refine ⟨_, (pss_cons (ps_par (i := 0) (j := 1) (by rfl) nd rfl rfl (by decide) rfl rfl (pa_cons (pe_callB call_abs (by rfl) T.n_abs (by decide +kernel) (pa_cons (pv 0) pa_nil)) (pa_cons (pe_callB call_abs (by rfl) T.n_abs (by decide +kernel) (pa_cons (pv 1) pa_nil)) pa_nil)) (by rfl))
    (pss_cons (ps_while PassesOwn.never (pt_cmpR op_gt (pv 1) pe_int (nomark _)) (pss_one (ps_par (i := 0) (j := 1) (by rfl) nd rfl rfl (by decide) rfl rfl (pa_cons (pv 1) (pa_cons (pe_op op_mod (pv 0) (pv 1)) pa_nil)) (by rfl))))
    (pss_one (ps_ret (pv 0))))), ?_⟩
    refine ⟨_, rfl, _, rfl, _, rfl, _, rfl, _, _, rfl, ?_⟩
    refine while_by (fun σ' H' => ∃ x y : Int, σ' = [some (.int x), some (.int y)] ∧ H' = H ∧ 0 ≤ x ∧ 0 ≤ y ∧ g2 x y = g2 a b) (fun σ' _ => match σ' with | [_, some (.int y)] => y.natAbs | _ => 0) ?_ ?_ ?_
    · refine ⟨_, _, rfl, rfl, abs_ge a, abs_ge b, ?_⟩
      rw [abs_eq, abs_eq, g2_abs]
    · rintro σ' H' ⟨x, y, rfl, rfl, x0, y0, e⟩
      refine ⟨_, rfl, _, _, rfl, rfl, _, rfl, ite2 (fun z => ?_) (fun z => ?_)⟩
      · have yp := of_decide_eq_true z
        refine ⟨_, rfl, _, rfl, _, rfl, _, _, rfl, rfl, yp, _, _, rfl, ?_⟩
        refine ⟨⟨_, _, rfl, rfl, y0, mod_lo x yp, by rw [gcd_step x0 yp, e]⟩, ?_⟩
        have h1 := mod_lo x yp
        have h2 := mod_hi x yp
        show (x % y).natAbs < y.natAbs
        omega
      · have yn : ¬ 0 < y := fun c => z (decide_eq_true c)
        refine ⟨_, rfl, ?_⟩
        have z2 := gcd_end x0 yn y0
        rw [← z2, e]
        exact k
    · exact fun _ _ _ _ m ⟨v, e, i, j, e1, e2, c, e3, q⟩ => ⟨v, e, i, j, e1, e2, c, e3, m _ _ q⟩
abbrev st_reduced : Stmt := top 4
theorem sc_reduced : FnScope ["numerator", "denominator", "divisor"] ["numerator", "denominator"] (defScope st_reduced) := ⟨rfl, rfl, rfl, by decide +kernel, rfl, by decide +kernel, by decide +kernel⟩
theorem ok_reduced {g : Addr} (a : At K mg "reduced" st_reduced ["numerator", "denominator"] f) (c_gcd : Df P w K mg base CX0 1 "gcd" g spGcd) : Df P w K mg base CX0 2 "reduced" f spFrac := by
  have nd := sc_reduced.nd
  refine a.ok sc_reduced (fun vs H Q E h => ?_) (fun cdv A outer s H vs Q E hr h => ?_)
  · obtain ⟨a, b, rfl, _⟩ := h
    rfl
  · obtain ⟨a, b, rfl, b0, bb, k⟩ := h
    refine ⟨_, (pss_cons (ps_set (i := 2) nd rfl (Or.inl rfl) (pe_k c_gcd hr (by decide) rfl (pa_cons (pv 0) (pa_cons (pv 1) pa_nil))))
    (pss_one (ps_ret (pe_tup (pa_cons (pe_op op_fdivW (pv 0) (pv 2)) (pa_cons (pe_op op_fdivW (pv 1) (pv 2)) pa_nil)))))), ?_⟩
    have gp := g2_pos (a := a) b0
    have gl := g2_le (a := a) b0
    have gb : CDivW a (g2 a b) := div_w gp (Nat.lt_of_le_of_lt (by omega) bb)
    exact ⟨_, rfl, _, rfl, a, b, rfl, _, rfl, _, rfl, _, _, rfl, rfl, gb, _, rfl, _, rfl, _, _, rfl, rfl, gb, (by show 2 ≤ sizeLine; decide), fun p hp => k p hp⟩
abbrev st__law_gcd : Stmt := top 19
theorem sc__law_gcd : FnScope ["one", "two"] ["one", "two"] (defScope st__law_gcd) := ⟨rfl, rfl, rfl, by decide +kernel, rfl, by decide +kernel, by decide +kernel⟩
theorem ok__law_gcd (a : At K mg "_law_gcd" st__law_gcd ["one", "two"] f) (T : Nm K mg base) : Df P w K mg base CX0 1 "_law_gcd" f spGcd := by
  have nd := sc__law_gcd.nd
  refine a.ok sc__law_gcd (fun vs H Q E h => ?_) (fun cdv A outer s H vs Q E hr h => ?_)
  · obtain ⟨a, b, rfl, _⟩ := h
    rfl
  · obtain ⟨a, b, rfl, k⟩ := h
    refine ⟨_, (pss_cons (ps_par (i := 0) (j := 1) (by rfl) nd rfl rfl (by decide) rfl rfl (pa_cons (pe_callB call_abs (by rfl) T.n_abs (by decide +kernel) (pa_cons (pv 0) pa_nil)) (pa_cons (pe_callB call_abs (by rfl) T.n_abs (by decide +kernel) (pa_cons (pv 1) pa_nil)) pa_nil)) (by rfl))
    (pss_cons (ps_while PassesOwn.never (pt_cmpR op_gt (pv 1) pe_int (nomark _)) (pss_one (ps_par (i := 0) (j := 1) (by rfl) nd rfl rfl (by decide) rfl rfl (pa_cons (pv 1) (pa_cons (pe_op op_mod (pv 0) (pv 1)) pa_nil)) (by rfl))))
    (pss_one (ps_ret (pv 0))))), ?_⟩
    refine ⟨_, rfl, _, rfl, _, rfl, _, rfl, _, _, rfl, ?_⟩
    refine while_by (fun σ' H' => ∃ x y : Int, σ' = [some (.int x), some (.int y)] ∧ H' = H ∧ 0 ≤ x ∧ 0 ≤ y ∧ g2 x y = g2 a b) (fun σ' _ => match σ' with | [_, some (.int y)] => y.natAbs | _ => 0) ?_ ?_ ?_
    · refine ⟨_, _, rfl, rfl, abs_ge a, abs_ge b, ?_⟩
      rw [abs_eq, abs_eq, g2_abs]
    · rintro σ' H' ⟨x, y, rfl, rfl, x0, y0, e⟩
      refine ⟨_, rfl, _, _, rfl, rfl, _, rfl, ite2 (fun z => ?_) (fun z => ?_)⟩
      · have yp := of_decide_eq_true z
        refine ⟨_, rfl, _, rfl, _, rfl, _, _, rfl, rfl, yp, _, _, rfl, ?_⟩
        refine ⟨⟨_, _, rfl, rfl, y0, mod_lo x yp, by rw [gcd_step x0 yp, e]⟩, ?_⟩
        have h1 := mod_lo x yp
        have h2 := mod_hi x yp
        show (x % y).natAbs < y.natAbs
        omega
      · have yn : ¬ 0 < y := fun c => z (decide_eq_true c)
        refine ⟨_, rfl, ?_⟩
        have z2 := gcd_end x0 yn y0
        rw [← z2, e]
        exact k
    · exact fun _ _ _ _ m ⟨v, e, i, j, e1, e2, c, e3, q⟩ => ⟨v, e, i, j, e1, e2, c, e3, m _ _ q⟩
abbrev st__law_fraction : Stmt := top 20
theorem sc__law_fraction : FnScope ["numerator", "denominator", "both"] ["numerator", "denominator"] (defScope st__law_fraction) := ⟨rfl, rfl, rfl, by decide +kernel, rfl, by decide +kernel, by decide +kernel⟩
theorem ok__law_fraction {g : Addr} (a : At K mg "_law_fraction" st__law_fraction ["numerator", "denominator"] f) (c__law_gcd : Df P w K mg base CX0 1 "_law_gcd" g spGcd) : Df P w K mg base CX0 2 "_law_fraction" f spFrac := by
  have nd := sc__law_fraction.nd
  refine a.ok sc__law_fraction (fun vs H Q E h => ?_) (fun cdv A outer s H vs Q E hr h => ?_)
  · obtain ⟨a, b, rfl, _⟩ := h
    rfl
  · obtain ⟨a, b, rfl, b0, bb, k⟩ := h
    refine ⟨_, (pss_cons (ps_set (i := 2) nd rfl (Or.inl rfl) (pe_k c__law_gcd hr (by decide) rfl (pa_cons (pv 0) (pa_cons (pv 1) pa_nil))))
    (pss_one (ps_ret (pe_tup (pa_cons (pe_op op_fdivW (pv 0) (pv 2)) (pa_cons (pe_op op_fdivW (pv 1) (pv 2)) pa_nil)))))), ?_⟩
    have gp := g2_pos (a := a) b0
    have gl := g2_le (a := a) b0
    have gb : CDivW a (g2 a b) := div_w gp (Nat.lt_of_le_of_lt (by omega) bb)
    exact ⟨_, rfl, _, rfl, a, b, rfl, _, rfl, _, rfl, _, _, rfl, rfl, gb, _, rfl, _, rfl, _, _, rfl, rfl, gb, (by show 2 ≤ sizeLine; decide), fun p hp => k p hp⟩

def spInt : Sp := fun vs H Q _ => ∃ l : List Nat, vs = [.str (S l)] ∧ l.length ≤ sizeLine ∧ ∀ H', Same H H' → Q (optV (numOf l)) H'
theorem ofS (s : String) : PySem.Str.ofString s = S (s.toList.map Char.toNat) := TL.ext_tl (TL.tl_ofString s)
theorem minus_test (l : List Nat) : (V.str (Txt.slice (S l) none (some 1)) = V.str (PySem.Str.ofString "-")) ↔ l.take 1 = [45] := by
  rw [slice_to (by decide), ofS]
  constructor
  · intro h
    injection h with h
    exact S_inj h
  · intro h
    rw [show (1 : Int).toNat = 1 from rfl, h]
    rfl
theorem from_one (l : List Nat) : Txt.slice (S l) (some 1) none = S (l.drop 1) := slice_from (by decide)
theorem digits_mem (c : Nat) : decide (c ∈ (PySem.Str.ofString "0123456789").cps.toList) = isDig c := by
  rw [show (PySem.Str.ofString "0123456789").cps.toList = [48, 49, 50, 51, 52, 53, 54, 55, 56, 57] by rw [ofS]; rfl]
  unfold isDig
  rw [← Bool.decide_and, decide_eq_decide]
  simp only [List.mem_cons, List.not_mem_nil, or_false]
  omega
theorem digitsOf_le (l : List Nat) : (digitsOf l).length ≤ l.length := by
  unfold digitsOf
  split
  · rw [List.length_drop]; omega
  · omega
theorem str_one (c e : Nat) (s : String) (h : PySem.Str.ofString s = S [e]) : (V.str ⟨#[c]⟩ = V.str (PySem.Str.ofString s)) ↔ c = e := by
  rw [h, show (⟨#[c]⟩ : PySem.Str) = S [c] from rfl]
  constructor
  · intro z
    injection z with z
    have := S_inj z
    injection this
  · intro z
    rw [z]
theorem str_is (l m : List Nat) (s : String) (h : PySem.Str.ofString s = S m) : (V.str (S l) = V.str (PySem.Str.ofString s)) ↔ l = m := by
  rw [h]
  constructor
  · intro z
    injection z with z
    exact S_inj z
  · intro z
    rw [z]
theorem zero_S : PySem.Str.ofString "0" = S [48] := ofS "0"
theorem not_bad {d : List Nat} (c1 : 1 ≤ d.length) (c2 : d.length ≤ 1000) (c3 : d.all isDig = true) : ¬ (d.length < 1 ∨ 1000 < d.length ∨ d.all isDig = false) := by
  rintro (z | z | z)
  · omega
  · omega
  · rw [c3] at z; cases z
abbrev st_int : Stmt := top 8
theorem sc_int : FnScope ["text", "digits", "digit"] ["text"] (defScope st_int) := ⟨rfl, rfl, rfl, by decide +kernel, rfl, by decide +kernel, by decide +kernel⟩
theorem ok_int (a : At K mg "integer_in" st_int ["text"] f) (T : Nm K mg base) (c_MAX : ∃ t, mg "MAX_DIGITS" = some (.int 1000 t)) (c_DIG : ∃ t, mg "DIGITS" = some (.str (PySem.Str.ofString "0123456789") t)) : Df P w K mg base CX0 1 "integer_in" f spInt := by
  have nd := sc_int.nd
  obtain ⟨tM, cM⟩ := c_MAX
  obtain ⟨tD, cD⟩ := c_DIG
  refine a.ok sc_int (fun vs H Q E h => ?_) (fun cdv A outer s H vs Q E hr h => ?_)
  · obtain ⟨l, rfl, _⟩ := h
    rfl
  · obtain ⟨l, rfl, len, k⟩ := h
    have slots : True := trivial
    refine ⟨_, (C8.pss_cut (ps_set (i := 1) nd rfl (Or.inl rfl) (pe_ifExp (pt_cmpR op_eq (pe_slice C8.sl_txt (pv 0) po_none (po_some pe_int)) pe_str (nomark _)) (pe_slice C8.sl_txt (pv 0) (po_some pe_int) po_none) (pv 0)))
    (pss_cons (ps_if (PW.pt (pw_or (pt_not (pt_chain op_le op_le pe_int (pe_callB call_len_str (by rfl) T.n_len PySem.boot_len (pa_cons (pv 1) pa_nil)) (pe_glob (v := .int 1000) rfl cM ⟨_, rfl⟩))) (pw_or1 (pt_not (pt_val (pe_callB (cr_all rfl) (by rfl) T.n_all (by decide +kernel) (pa_cons (pe_lc (own := [("digit", 2)]) (g := gName 2) rfl nd (pi_str (pv 1)) (blkOk_by (own := [("digit", 2)]) (N := ["text", "digits", "digit"]) (sc := defScope st_int) (by decide +kernel)) (fun _ _ _ _ _ => pg_name (i := 2) nd rfl (Or.inl rfl)) (fun _ _ _ _ _ => pts_nil) (fun _ _ _ _ _ => (pe_cmpR op_in_sign (pv 2) (pe_glob (v := .str (PySem.Str.ofString "0123456789")) rfl cD ⟨_, rfl⟩) rfl))) pa_nil))))))) (pss_one (ps_ret pe_non)) pss_nil)
    (pss_one (ps_ret (pe_ifExp (PW.pt (pw_and (pt_cmpR op_eq (pe_ix ix_str (pv 1) pe_int (fun _ _ => rfl)) pe_str (nomark _)) (pw_and1 (pt_cmpR op_ne (pv 0) pe_str (nomark _))))) pe_non (pe_callTy (call_intB T.dig) (by rfl) T.n_int (by decide +kernel) (pa_cons (pv 0) pa_nil))))))), ?_⟩
    refine ⟨fun σ' H' => σ' = [some (.str (S l)), some (.str (S (digitsOf l))), none] ∧ H' = H, ?_, ?_⟩
    · refine ⟨_, rfl, 1, rfl, _, rfl, by rw [S_len]; exact len, rfl, _, rfl, ite2 (fun z => ?_) (fun z => ?_)⟩
      · have m := (minus_test l).mp (of_decide_eq_true z)
        refine ⟨_, rfl, 1, rfl, _, rfl, by rw [S_len]; exact len, ?_, rfl⟩
        rw [from_one, show digitsOf l = l.drop 1 from if_pos m]
        rfl
      · have m : ¬ l.take 1 = [45] := fun y => z (decide_eq_true ((minus_test l).mpr y))
        refine ⟨_, rfl, ?_, rfl⟩
        rw [show digitsOf l = l from if_neg m]
        rfl
    · rintro σ' H' ⟨rfl, rfl⟩
      have dl := digitsOf_le l
      have dlen : (S (digitsOf l)).length = (digitsOf l).length := S_len _
      generalize hd : digitsOf l = d at dl dlen ⊢
      have kn : ∀ H2, Same H' H2 → (d.length < 1 ∨ 1000 < d.length ∨ d.all isDig = false) → Q .non H2 := fun H2 sm c => by
        have z := k H2 sm
        unfold numOf at z
        rw [hd, if_pos c] at z
        exact z
      refine ⟨_, rfl, _, rfl, by rw [dlen]; omega, _, _, rfl, rfl, _, rfl, ?_⟩
      by_cases c1 : 1 ≤ d.length
      · refine ifY (decide_eq_true (by rw [dlen]; omega)) ⟨_, _, rfl, rfl, _, rfl, ?_⟩
        by_cases c2 : d.length ≤ 1000
        · refine ifN (by rw [decide_eq_true (by rw [dlen]; omega)]; rfl) ?_
          refine ⟨_, rfl, _, rfl, fun D hD => lc_str (fun i H2 => Bes D H' H2 ∧ H2 D = some (.lst (((d.take i).map isDig).map V.bl))) ⟨bes_start, upd_same⟩ ?_ ?_⟩
          · rintro i c H2 hc ⟨b2, l2⟩
            refine ⟨rfl, _, rfl, c, _, rfl, rfl, _, l2, ?_, bes_put b2, ?_⟩
            · rw [List.length_map, List.length_map, List.length_take]
              exact Nat.lt_of_le_of_lt (Nat.min_le_right _ _) (small1000 c2)
            · rw [upd_same, take_more hc, List.map_append, List.map_append, List.map_singleton, List.map_singleton, ← digits_mem]
          · rintro H2 ⟨b2, l2⟩
            have sm := same_new hD b2
            have l3 : H2 D = some (.lst ((d.map isDig).map V.bl)) := by
              rw [show (S d).cps.toList = d from rfl, List.take_length] at l2
              exact l2
            refine ⟨D, d.map isDig, rfl, SqL.of l3, _, rfl, ?_⟩
            have ea : (d.map isDig).all id = d.all isDig := by rw [List.all_map]; rfl
            rw [ea]
            by_cases c3 : d.all isDig = true
            · refine ifN (by rw [c3]; rfl) ?_
              cases d with
              | nil => exact absurd c1 (by decide)
              | cons c0 r =>
                have at0 : atI (S (c0 :: r)).cps.toList (0 : Int) = some c0 := atI_nat (j := 0) rfl
                refine ⟨_, rfl, _, _, c0, rfl, rfl, by rw [dlen]; omega, at0, rfl, _, rfl, ?_⟩
                have int_way : ¬ ((c0 = 48) ∧ l ≠ [48]) → ∃ (a : PySem.Str) (n : Int), [V.str (S l)] = [V.str a] ∧ PySem.intText? a = some n ∧ a.length ≤ 4300 ∧ Q (.int n) H2 := fun no => by
                  have no2 : ¬ ((digitsOf l).head? = some 48 ∧ l ≠ [48]) := by
                    rw [hd]
                    rintro ⟨z1, z2⟩
                    exact no ⟨Option.some.inj z1, z2⟩
                  obtain ⟨e1, e2⟩ := int_of (l := l) (by rw [hd]; exact c1) (by rw [hd]; exact c2) (by rw [hd]; exact c3) rfl
                  refine ⟨S l, _, rfl, e1, e2, ?_⟩
                  have z := k H2 sm
                  unfold numOf at z
                  rw [if_neg (by rw [hd]; exact not_bad c1 c2 c3), if_neg no2] at z
                  exact z
                by_cases c4 : c0 = 48
                · refine ifY (decide_eq_true ((str_one _ _ _ zero_S).mpr c4)) ⟨_, rfl, rfl, _, rfl, ?_⟩
                  by_cases c5 : l = [48]
                  · refine ifN (by rw [decide_eq_true ((str_is _ _ _ zero_S).mpr c5)]; rfl) ⟨_, rfl, int_way fun z => z.2 c5⟩
                  · refine ifY (by rw [decide_eq_false fun z => c5 ((str_is _ _ _ zero_S).mp z)]; rfl) ?_
                    have z := k H2 sm
                    unfold numOf at z
                    rw [if_neg (by rw [hd]; exact not_bad c1 c2 c3), if_pos ⟨by rw [hd, c4]; rfl, c5⟩] at z
                    exact z
                · exact ifN (decide_eq_false fun z => c4 ((str_one _ _ _ zero_S).mp z)) (ifN rfl ⟨_, rfl, int_way fun z => c4 z.1⟩)
            · exact ifY (by rw [Bool.not_eq_true] at c3; rw [c3]; rfl) (kn H2 sm (.inr (.inr (by rw [Bool.not_eq_true] at c3; exact c3))))
        · exact ifY (by rw [decide_eq_false (by rw [dlen]; omega)]; rfl) (iteT (kn _ (Same.refl _) (.inr (.inl (by omega)))))
      · exact ifN (decide_eq_false (by rw [dlen]; omega)) ⟨_, rfl, ifY rfl (iteT (kn _ (Same.refl _) (.inl (by omega))))⟩
abbrev st_lint : Stmt := top 22
theorem sc_lint : FnScope ["text", "digits", "digit"] ["text"] (defScope st_lint) := ⟨rfl, rfl, rfl, by decide +kernel, rfl, by decide +kernel, by decide +kernel⟩
theorem ok_lint (a : At K mg "_law_int_in" st_lint ["text"] f) (T : Nm K mg base) : Df P w K mg base CX0 1 "_law_int_in" f spInt := by
  have nd := sc_lint.nd
  refine a.ok sc_lint (fun vs H Q E h => ?_) (fun cdv A outer s H vs Q E hr h => ?_)
  · obtain ⟨l, rfl, _⟩ := h
    rfl
  · obtain ⟨l, rfl, len, k⟩ := h
    have slots : True := trivial
    refine ⟨_, (C8.pss_cut (ps_set (i := 1) nd rfl (Or.inl rfl) (pe_ifExp (pt_cmpR op_eq (pe_slice C8.sl_txt (pv 0) po_none (po_some pe_int)) pe_str (nomark _)) (pe_slice C8.sl_txt (pv 0) (po_some pe_int) po_none) (pv 0)))
    (pss_cons (ps_if (PW.pt (pw_or (pt_not (pt_chain op_le op_le pe_int (pe_callB call_len_str (by rfl) T.n_len PySem.boot_len (pa_cons (pv 1) pa_nil)) pe_int)) (pw_or1 (pt_cmpR (op_neF hr.units) (pe_lc (own := [("digit", 2)]) (g := gName 2) rfl nd (pi_str (pv 1)) (blkOk_by (own := [("digit", 2)]) (N := ["text", "digits", "digit"]) (sc := defScope st_lint) (by decide +kernel)) (fun _ _ _ _ _ => pg_name (i := 2) nd rfl (Or.inl rfl)) (fun _ _ _ _ _ => (pts_one (pt_cmpR op_notIn_sign (pv 2) pe_str rfl))) (fun _ _ _ _ _ => (pv 2))) (pe_lst pa_nil) (nomark _))))) (pss_one (ps_ret pe_non)) pss_nil)
    (pss_one (ps_ret (pe_ifExp (PW.pt (pw_and (pt_cmpR op_eq (pe_ix ix_str (pv 1) pe_int (fun _ _ => rfl)) pe_str (nomark _)) (pw_and1 (pt_cmpR op_ne (pv 0) pe_str (nomark _))))) pe_non (pe_callTy (call_intB T.dig) (by rfl) T.n_int (by decide +kernel) (pa_cons (pv 0) pa_nil))))))), ?_⟩
    refine ⟨fun σ' H' => σ' = [some (.str (S l)), some (.str (S (digitsOf l))), none] ∧ H' = H, ?_, ?_⟩
    · refine ⟨_, rfl, 1, rfl, _, rfl, by rw [S_len]; exact len, rfl, _, rfl, ite2 (fun z => ?_) (fun z => ?_)⟩
      · have m := (minus_test l).mp (of_decide_eq_true z)
        refine ⟨_, rfl, 1, rfl, _, rfl, by rw [S_len]; exact len, ?_, rfl⟩
        rw [from_one, show digitsOf l = l.drop 1 from if_pos m]
        rfl
      · have m : ¬ l.take 1 = [45] := fun y => z (decide_eq_true ((minus_test l).mpr y))
        refine ⟨_, rfl, ?_, rfl⟩
        rw [show digitsOf l = l from if_neg m]
        rfl
    · rintro σ' H' ⟨rfl, rfl⟩
      have dl := digitsOf_le l
      have dlen : (S (digitsOf l)).length = (digitsOf l).length := S_len _
      generalize hd : digitsOf l = d at dl dlen ⊢
      have kn : ∀ H2, Same H' H2 → (d.length < 1 ∨ 1000 < d.length ∨ d.all isDig = false) → Q .non H2 := fun H2 sm c => by
        have z := k H2 sm
        unfold numOf at z
        rw [hd, if_pos c] at z
        exact z
      refine ⟨_, rfl, _, rfl, by rw [dlen]; omega, _, _, rfl, rfl, _, rfl, ?_⟩
      by_cases c1 : 1 ≤ d.length
      · refine ifY (decide_eq_true (by rw [dlen]; omega)) ⟨_, _, rfl, rfl, _, rfl, ?_⟩
        by_cases c2 : d.length ≤ 1000
        · refine ifN (by rw [decide_eq_true (by rw [dlen]; omega)]; rfl) ?_
          refine ⟨_, rfl, _, rfl, fun D hD => lc_str (fun i H2 => Bes D H' H2 ∧ H2 D = some (.lst (((d.take i).filter fun c => !isDig c).map fun c => V.str ⟨#[c]⟩))) ⟨bes_start, upd_same⟩ ?_ ?_⟩
          · rintro i c H2 hc ⟨b2, l2⟩
            refine ⟨rfl, _, rfl, c, _, rfl, rfl, _, rfl, ?_⟩
            rw [digits_mem]
            have hc2 : d[i]? = some c := hc
            by_cases c4 : isDig c = true
            · refine ifN (by rw [c4]; rfl) ⟨b2, ?_⟩
              rw [l2, take_more hc2, List.filter_append]
              simp [c4]
            · rw [Bool.not_eq_true] at c4
              refine ifY (by rw [c4]; rfl) ⟨_, rfl, _, l2, ?_, bes_put b2, ?_⟩
              · rw [List.length_map]
                refine Nat.lt_of_le_of_lt (List.length_filter_le _ _) ?_
                rw [List.length_take]
                exact Nat.lt_of_le_of_lt (Nat.min_le_right _ _) (small1000 c2)
              · rw [upd_same, take_more hc2, List.filter_append]
                simp [c4]
          · rintro H2 ⟨b2, l2⟩
            have sm2 := same_new hD b2
            have l3 : H2 D = some (.lst ((d.filter fun c => !isDig c).map fun c => V.str ⟨#[c]⟩)) := by
              rw [show (S d).cps.toList = d from rfl, List.take_length] at l2
              exact l2
            refine ⟨Nat.zero_le _, fun q hq => ?_⟩
            have sm : Same H' (upd H2 q (.lst [])) := sm2.trans (new_same hq)
            have l4 : (upd H2 q (.lst [])) D = some (.lst ((d.filter fun c => !isDig c).map fun c => V.str ⟨#[c]⟩)) := new_same hq _ _ l3
            have l5 : (upd H2 q (.lst [])) q = some (.lst []) := upd_same
            generalize upd H2 q (.lst []) = H2 at sm l4 l5
            refine ⟨D, q, _, _, rfl, rfl, SqL.of l4, SqL.of l5, ?_⟩
            have ea : (d.filter fun c => !isDig c) = [] ↔ d.all isDig = true := by
              rw [List.filter_eq_nil_iff, List.all_eq_true]
              simp
            by_cases c3 : d.all isDig = true
            · refine .inr ⟨by rw [ea.mpr c3]; rfl, by rw [ea.mpr c3]; rfl, _, rfl, ?_⟩
              refine ifN rfl ?_
              cases d with
              | nil => exact absurd c1 (by decide)
              | cons c0 r =>
                have at0 : atI (S (c0 :: r)).cps.toList (0 : Int) = some c0 := atI_nat (j := 0) rfl
                refine ⟨_, rfl, _, _, c0, rfl, rfl, by rw [dlen]; omega, at0, rfl, _, rfl, ?_⟩
                have int_way : ¬ ((c0 = 48) ∧ l ≠ [48]) → ∃ (a : PySem.Str) (n : Int), [V.str (S l)] = [V.str a] ∧ PySem.intText? a = some n ∧ a.length ≤ 4300 ∧ Q (.int n) H2 := fun no => by
                  have no2 : ¬ ((digitsOf l).head? = some 48 ∧ l ≠ [48]) := by
                    rw [hd]
                    rintro ⟨z1, z2⟩
                    exact no ⟨Option.some.inj z1, z2⟩
                  obtain ⟨e1, e2⟩ := int_of (l := l) (by rw [hd]; exact c1) (by rw [hd]; exact c2) (by rw [hd]; exact c3) rfl
                  refine ⟨S l, _, rfl, e1, e2, ?_⟩
                  have z := k H2 sm
                  unfold numOf at z
                  rw [if_neg (by rw [hd]; exact not_bad c1 c2 c3), if_neg no2] at z
                  exact z
                by_cases c4 : c0 = 48
                · refine ifY (decide_eq_true ((str_one _ _ _ zero_S).mpr c4)) ⟨_, rfl, rfl, _, rfl, ?_⟩
                  by_cases c5 : l = [48]
                  · refine ifN (by rw [decide_eq_true ((str_is _ _ _ zero_S).mpr c5)]; rfl) ⟨_, rfl, int_way fun z => z.2 c5⟩
                  · refine ifY (by rw [decide_eq_false fun z => c5 ((str_is _ _ _ zero_S).mp z)]; rfl) ?_
                    have z := k H2 sm
                    unfold numOf at z
                    rw [if_neg (by rw [hd]; exact not_bad c1 c2 c3), if_pos ⟨by rw [hd, c4]; rfl, c5⟩] at z
                    exact z
                · exact ifN (decide_eq_false fun z => c4 ((str_one _ _ _ zero_S).mp z)) (ifN rfl ⟨_, rfl, int_way fun z => c4 z.1⟩)
            · refine .inl ⟨?_, _, rfl, ?_⟩
              · rw [List.length_map]
                intro z
                exact c3 (ea.mp (List.length_eq_zero_iff.mp z))
              exact ifY rfl (kn H2 sm (.inr (.inr (by rw [Bool.not_eq_true] at c3; exact c3))))
        · exact ifY (by rw [decide_eq_false (by rw [dlen]; omega)]; rfl) (iteT (kn _ (Same.refl _) (.inr (.inl (by omega)))))
      · exact ifN (decide_eq_false (by rw [dlen]; omega)) ⟨_, rfl, ifY rfl (iteT (kn _ (Same.refl _) (.inl (by omega))))⟩
end
end K90

namespace K90
open PySem L2 SmA SmM SX
section
variable {P : Program} {w : World} {K : PySem.W.Frag} {mg : PySem.Str → Option Value} {base : Heap} {f : Addr}
/-- what a pair is told by -/
def ansP (o : Option (Int × Int)) (H : Hp) (Q : VK) : Prop := match o with
  | none => ∀ H', Same H H' → Q .non H'
  | some (a, b) => ∀ H' p, Same H H' → H' p = some (.tup [.int a, .int b]) → Q (.ref p) H'
def spPair : Sp := fun vs H Q _ => ∃ l : List Nat, vs = [.str (S l), .str (PySem.Str.ofString "/")] ∧ l.length + 2 ≤ sizeLine ∧ ansP (pairOf l) H Q
theorem slash_S : PySem.Str.ofString "/" = S [47] := ofS "/"
theorem ansP_none {H H' : Hp} {Q : VK} {o : Option (Int × Int)} (h : ansP o H Q) (e : o = none) (s : Same H H') : Q .non H' := by
  subst e
  exact h H' s
theorem ansP_some {H H' : Hp} {Q : VK} {o : Option (Int × Int)} {a b : Int} {p : Addr} (h : ansP o H Q) (e : o = some (a, b)) (s : Same H H') (hp : H' p = some (.tup [.int a, .int b])) : Q (.ref p) H' := by
  subst e
  exact h H' p s hp
theorem none_in (a b : Option Int) : inV .non [optV a, optV b] = (pair2 a b).isNone := by
  cases a <;> cases b <;> rfl
theorem opt_flat (a : Option Int) : flatV (optV a) = true := by cases a <;> rfl
abbrev st_pair : Stmt := top 9
theorem sc_pair : FnScope ["text", "sign", "first", "middle", "second", "pair"] ["text", "sign"] (defScope st_pair) := ⟨rfl, rfl, rfl, by decide +kernel, rfl, by decide +kernel, by decide +kernel⟩
theorem ok_pair {g : Addr} (a : At K mg "pair_in" st_pair ["text", "sign"] f) (c_integer_in : Df P w K mg base CX0 1 "integer_in" g spInt) : Df P w K mg base CX0 2 "pair_in" f spPair := by
  have nd := sc_pair.nd
  refine a.ok sc_pair (fun vs H Q E h => ?_) (fun cdv A outer s H vs Q E hr h => ?_)
  · obtain ⟨l, rfl, _⟩ := h
    rfl
  · obtain ⟨l, rfl, len, k⟩ := h
    refine ⟨_, (pss_cons (ps_asg (pe_partition (pv 0) (pv 1)) (pg_tup rfl (pgs_cons (pg_name (i := 2) nd rfl (Or.inl rfl)) (pgs_cons (pg_name (i := 3) nd rfl (Or.inl rfl)) (pgs_cons (pg_name (i := 4) nd rfl (Or.inl rfl)) pgs_nil)))))
    (pss_cons (ps_set (i := 5) nd rfl (Or.inl rfl) (pe_tup (pa_cons (pe_k c_integer_in hr (by decide) rfl (pa_cons (pv 2) pa_nil)) (pa_cons (pe_k c_integer_in hr (by decide) rfl (pa_cons (pv 4) pa_nil)) pa_nil))))
    (pss_one (ps_ret (pe_ifExp (PW.pt (pw_or (pt_cmpR op_eq (pv 3) pe_str (nomark _)) (pw_or1 (pt_cmpR op_in_seq pe_non (pv 5) rfl)))) pe_non (pv 5)))))), ?_⟩
    refine ⟨_, rfl, ⟨_, rfl⟩, _, rfl, S l, _, rfl, rfl, (by decide +kernel), by rw [S_len]; omega, fun t ht => ?_⟩
    obtain ⟨p, m, q, ep, hp, hm, hq⟩ : ∃ p m q, Txt.partition (S l) (PySem.Str.ofString "/") = (S p, S m, S q) ∧ p.length ≤ l.length ∧ q.length ≤ l.length ∧ ((m = [] ∧ pairOf l = none) ∨ (m = [47] ∧ pairOf l = pair2 (numOf p) (numOf q))) := by
      rw [slash_S]
      rcases cut_first 47 l with h | ⟨p, q, rfl, h⟩
      · exact ⟨l, [], [], partition_none (by decide) (TL.par_none1 h), Nat.le_refl _, Nat.zero_le _, .inl ⟨rfl, pair_none h⟩⟩
      · refine ⟨p, [47], q, partition_some (by decide) (TL.par_part1 (S := []) h), ?_, ?_, .inr ⟨rfl, pair_some h⟩⟩
        · rw [List.length_append]; omega
        · rw [List.length_append, List.length_append]; omega
    rw [ep]
    dsimp only
    refine ⟨t, _, rfl, SqT.of upd_same, rfl, ?_⟩
    have s1 : Same H (upd H t (.tup [.str (S p), .str (S m), .str (S q)])) := new_same ht
    generalize upd H t (.tup [.str (S p), .str (S m), .str (S q)]) = H1 at s1
    refine ⟨_, _, rfl, _, _, rfl, _, _, rfl, rfl, ?_⟩
    refine ⟨_, rfl, p, rfl, by omega, fun H2 s2 => ⟨_, rfl, q, rfl, by omega, fun H3 s3 => ?_⟩⟩
    refine ⟨(by show 2 ≤ sizeLine; decide), fun u hu => ?_⟩
    have s4 : Same H (upd H3 u (.tup [optV (numOf p), optV (numOf q)])) := ((s1.trans s2).trans s3).trans (new_same hu)
    have hu2 : (upd H3 u (.tup [optV (numOf p), optV (numOf q)])) u = some (.tup [optV (numOf p), optV (numOf q)]) := upd_same
    generalize upd H3 u (.tup [optV (numOf p), optV (numOf q)]) = H4 at s4 hu2
    refine ⟨_, rfl, rfl, _, rfl, ?_⟩
    rcases hq with ⟨rfl, e⟩ | ⟨rfl, e⟩
    · refine ifY (decide_eq_true rfl) (iteT (ansP_none k e s4))
    · refine ifN (decide_eq_false fun z => ?_) ⟨_, rfl, u, _, rfl, .inr (SqT.of hu2), rfl, by simp [opt_flat], _, rfl, ?_⟩
      · injection z with z
        exact absurd (S_inj (z.trans (ofS ""))) (by decide)
      · show if inV .non [optV (numOf p), optV (numOf q)] = true then _ else _
        rw [none_in, ← e]
        cases e2 : pairOf l with
        | none => exact iteT (ansP_none k e2 s4)
        | some ab =>
          obtain ⟨a, b⟩ := ab
          refine iteF ⟨_, rfl, ansP_some k e2 s4 ?_⟩
          rw [e] at e2
          obtain ⟨h1, h2⟩ := pair2_some e2
          rw [hu2, h1, h2]
          rfl
/-- [f(part) for part in parts], f one of the two -/
theorem slash_all : [47].all (· < 256) = true := by decide
theorem opt_in : ∀ os : List (Option Int), inV .non (os.map optV) = (all2 os).isNone
  | [] => rfl
  | none :: _ => rfl
  | some n :: r => by
    rw [List.map_cons]
    show (false || inV .non (r.map optV)) = _
    rw [opt_in r, Bool.false_or]
    cases e : all2 r with
    | none => rw [all2, e]; rfl
    | some ms => rw [all2, e]; rfl
theorem opts_flat (os : List (Option Int)) : (os.map optV).all flatV = true := List.all_eq_true.mpr fun x hx => by
  obtain ⟨o, _, rfl⟩ := List.mem_map.mp hx
  exact opt_flat o
theorem pair_parts {l : List Nat} : pairOf l = match (TL.spl [47] 0 [] l).map numOf with
  | [a, b] => pair2 a b
  | _ => none := by
  unfold pairOf
  cases TL.spl [47] 0 [] l with
  | nil => rfl
  | cons a r =>
    cases r with
    | nil => rfl
    | cons b r =>
      cases r with
      | nil => rfl
      | cons c r => rfl
abbrev st_lpair : Stmt := top 23
theorem sc_lpair : FnScope ["text", "sign", "parts", "pair", "part"] ["text", "sign"] (defScope st_lpair) := ⟨rfl, rfl, rfl, by decide +kernel, rfl, by decide +kernel, by decide +kernel⟩
theorem ok_lpair {g : Addr} (a : At K mg "_law_pair_in" st_lpair ["text", "sign"] f) (T : Nm K mg base) (c__law_int_in : Df P w K mg base CX0 1 "_law_int_in" g spInt) : Df P w K mg base CX0 2 "_law_pair_in" f spPair := by
  have nd := sc_lpair.nd
  refine a.ok sc_lpair (fun vs H Q E h => ?_) (fun cdv A outer s H vs Q E hr h => ?_)
  · obtain ⟨l, rfl, _⟩ := h
    rfl
  · obtain ⟨l, rfl, len, k⟩ := h
    refine ⟨_, (pss_cons (ps_set (i := 2) nd rfl (Or.inl rfl) (pe_split (pv 0) (pv 1)))
    (pss_cons (ps_set (i := 3) nd rfl (Or.inl rfl) (pe_callTy call_tuple_of (by rfl) T.n_tuple (by decide +kernel) (pa_cons (pe_lc (own := [("part", 4)]) (g := gName 4) rfl nd (pi_list (pv 2)) (blkOk_by (own := [("part", 4)]) (N := ["text", "sign", "parts", "pair", "part"]) (sc := defScope st_lpair) (by decide +kernel)) (fun _ _ _ _ _ => pg_name (i := 4) nd rfl (Or.inl rfl)) (fun _ _ _ _ _ => pts_nil) (fun _ _ _ _ _ => (pe_k c__law_int_in hr (by decide) rfl (pa_cons (pv 4) pa_nil)))) pa_nil)))
    (pss_one (ps_ret (pe_ifExp (PW.pt (pw_and (pt_cmpR op_eq (pe_callB call_len_seq (by rfl) T.n_len PySem.boot_len (pa_cons (pv 3) pa_nil)) pe_int (nomark _)) (pw_and1 (pt_cmpR op_notIn_seq pe_non (pv 3) rfl)))) (pv 3) pe_non))))), ?_⟩
    refine ⟨_, rfl, ⟨_, rfl⟩, _, rfl, S l, _, rfl, rfl, (by decide +kernel), by rw [S_len]; omega, fun t ht => ?_⟩
    rw [slash_S, split_S (by decide) slash_all]
    generalize hps : TL.spl [47] 0 [] l = ps
    have pc : ps.length ≤ l.length + 1 := by rw [← hps]; exact spl_count 47 l
    have pl : ∀ p ∈ ps, p.length ≤ l.length := fun p hp => by rw [← hps] at hp; exact spl_part_le hp
    have s1 : Same H (upd H t (.lst ((ps.map S).map V.str))) := new_same ht
    have ht1 : (upd H t (.lst ((ps.map S).map V.str))) t = some (.lst ((ps.map S).map V.str)) := upd_same
    generalize upd H t (.lst ((ps.map S).map V.str)) = H1 at s1 ht1
    refine ⟨_, rfl, t, rfl, ⟨_, SqL.of ht1⟩, fun D hD => lc_list (K := K) (a := t) (xs := (ps.map S).map V.str) (fun i H2 => Bes D H1 H2 ∧ H2 D = some (.lst (((ps.take i).map numOf).map optV))) ⟨bes_start, upd_same⟩ ?_ ?_ ?_⟩
    · rintro i H2 _ ⟨b2, _⟩
      exact Same.seq (same_new hD b2) (SqL.of ht1)
    · rintro i x H2 hx ⟨b2, l2⟩
      rw [List.getElem?_map, List.getElem?_map] at hx
      cases e : ps[i]? with
      | none => rw [e] at hx; cases hx
      | some p =>
        rw [e] at hx
        obtain rfl : V.str (S p) = x := Option.some.inj hx
        have hp := pl p (List.mem_of_getElem? e)
        refine ⟨rfl, _, rfl, p, rfl, by omega, fun H3 s3 => ⟨_, s3 _ _ l2, ?_, fun b o n hb => ?_, ?_⟩⟩
        · rw [List.length_map, List.length_map, List.length_take]
          omega
        · rw [upd_ne n]
          exact s3 _ _ (b2 b o n hb)
        · rw [upd_same, take_more e, List.map_append, List.map_append]
          rfl
    · rintro H2 ⟨b2, l2⟩
      have s2 : Same H H2 := s1.trans (same_new hD b2)
      have l3 : H2 D = some (.lst ((ps.map numOf).map optV)) := by
        rw [List.length_map, List.length_map, List.take_length] at l2
        exact l2
      refine ⟨D, _, rfl, .inl ⟨SqL.of l3, fun u hu => ?_⟩⟩
      have s4 : Same H (upd H2 u (.tup ((ps.map numOf).map optV))) := s2.trans (new_same hu)
      have hu2 : (upd H2 u (.tup ((ps.map numOf).map optV))) u = some (.tup ((ps.map numOf).map optV)) := upd_same
      generalize upd H2 u (.tup ((ps.map numOf).map optV)) = H4 at s4 hu2
      refine ⟨_, rfl, u, _, rfl, .inr (SqT.of hu2), rfl, _, rfl, ?_⟩
      have pp := pair_parts (l := l)
      rw [hps] at pp
      by_cases c : ps.length = 2
      · refine ifY (decide_eq_true (by rw [List.length_map, List.length_map, c]; rfl)) ⟨_, rfl, u, _, rfl, .inr (SqT.of hu2), rfl, opts_flat _, _, rfl, ?_⟩
        show if (!inV .non ((ps.map numOf).map optV)) = true then _ else _
        rw [opt_in]
        match ps, c with
        | [x, y], _ =>
          have e2 : pairOf l = pair2 (numOf x) (numOf y) := pp
          cases e3 : numOf x with
          | none => exact ifN (by rw [List.map_cons, e3]; rfl) (ansP_none k (by rw [e2, e3]; rfl) s4)
          | some a =>
            cases e4 : numOf y with
            | none => exact ifN (by rw [List.map_cons, List.map_cons, List.map_nil, e3, e4]; rfl) (ansP_none k (by rw [e2, e3, e4]; rfl) s4)
            | some b =>
              refine ifY (by rw [List.map_cons, List.map_cons, List.map_nil, e3, e4]; rfl) ⟨_, rfl, ansP_some k (by rw [e2, e3, e4]; rfl) s4 ?_⟩
              rw [hu2]
              show some (HO.tup [optV (numOf x), optV (numOf y)]) = _
              rw [e3, e4]
              rfl
      · refine ifN (decide_eq_false fun z => c ?_) (iteF (ansP_none k ?_ s4))
        · injection z with z
          rw [List.length_map, List.length_map] at z
          exact Int.ofNat_inj.mp z
        · rw [pp]
          match ps, c with
          | [], _ => rfl
          | [_], _ => rfl
          | [_, _], c => exact absurd rfl c
          | _ :: _ :: _ :: _, _ => rfl
end
end K90

namespace K90
open PySem L2 SmA SmM SX
section
variable {P : Program} {w : World} {K : PySem.W.Frag} {mg : PySem.Str → Option Value} {base : Heap} {f : Addr}
/-- format_fraction -/
def spFmtF (K : PySem.W.Frag) : Sp := fun vs H Q _ => ∃ (a : Addr) (x y : Int), vs = [.ref a] ∧ SqT K H a [.int x, .int y] ∧ x.natAbs < 10 ^ 500 ∧ y.natAbs < 10 ^ 500 ∧ Q (.str (S (decL x ++ ([47] ++ decL y)))) H
abbrev st_fmtF : Stmt := top 10
theorem sc_fmtF : FnScope ["fraction"] ["fraction"] (defScope st_fmtF) := ⟨rfl, rfl, rfl, by decide +kernel, rfl, by decide +kernel, by decide +kernel⟩
theorem fmt_1 (x : Int) : PySem.Str.empty ++ PySem.Str.ofString (toString x) = S (decL x) := by
  rw [dec_S]
  exact S_cat [] _
theorem fmt_2 (x : Int) : PySem.Str.empty ++ PySem.Str.ofString (toString x) ++ PySem.Str.ofString "/" = S (decL x ++ [47]) := by
  rw [fmt_1, slash_S]
  exact S_cat _ _
theorem fmt_cat (x y : Int) : PySem.Str.empty ++ PySem.Str.ofString (toString x) ++ PySem.Str.ofString "/" ++ PySem.Str.ofString (toString y) = S (decL x ++ ([47] ++ decL y)) := by
  rw [fmt_2, dec_S, ← List.append_assoc]
  exact S_cat _ _
theorem dec500 {x : Int} (h : x.natAbs < 10 ^ 500) : (decL x).length ≤ 501 := decL_len (by decide) h
theorem ok_fmtF (a : At K mg "format_fraction" st_fmtF ["fraction"] f) : Df P w K mg base CX0 1 "format_fraction" f (spFmtF K) := by
  have nd := sc_fmtF.nd
  refine a.ok sc_fmtF (fun vs H Q E h => ?_) (fun cdv A outer s H vs Q E hr h => ?_)
  · obtain ⟨a, x, y, rfl, _⟩ := h
    rfl
  · obtain ⟨a, x, y, rfl, hs, bx, by_, k⟩ := h
    refine ⟨_, (pss_one (ps_ret (pe_joined (.cons (pe_fmt (pe_ix ix_tup (pv 0) pe_int (fun _ _ => rfl))) (.cons pe_str (.cons (pe_fmt (pe_ix ix_tup (pv 0) pe_int (fun _ _ => rfl))) .nil)))))), ?_⟩
    have lx := dec500 bx
    have ly := dec500 by_
    have line : 2000 ≤ sizeLine := by decide
    refine ⟨_, rfl, a, _, 0, _, rfl, rfl, hs, atI_nat (j := 0) rfl, .inr ⟨x, rfl, log_dec bx, _, rfl, ?_, ?_⟩⟩
    · show (PySem.Str.empty ++ PySem.Str.ofString (toString x)).length ≤ _
      rw [fmt_1, S_len]
      omega
    refine ⟨_, rfl, ?_, ?_⟩
    · show (PySem.Str.empty ++ PySem.Str.ofString (toString x) ++ PySem.Str.ofString "/").length ≤ _
      rw [fmt_2, S_len, List.length_append]
      show _ + 1 ≤ _
      omega
    refine ⟨_, rfl, a, _, 1, _, rfl, rfl, hs, atI_nat (j := 1) rfl, .inr ⟨y, rfl, log_dec by_, _, rfl, ?_, ?_⟩⟩
    · show (PySem.Str.empty ++ PySem.Str.ofString (toString x) ++ PySem.Str.ofString "/" ++ PySem.Str.ofString (toString y)).length ≤ _
      rw [fmt_cat, S_len, List.length_append, List.length_append]
      show _ + (1 + _) ≤ _
      omega
    · show Q (.str (PySem.Str.empty ++ PySem.Str.ofString (toString x) ++ PySem.Str.ofString "/" ++ PySem.Str.ofString (toString y))) H
      rw [fmt_cat]
      exact k
/-- format_chain -/
def spFmtC (K : PySem.W.Frag) : Sp := fun vs H Q _ => ∃ (a : Addr) (ns : List Int), vs = [.ref a] ∧ (SqL K H a (ns.map V.int) ∨ SqT K H a (ns.map V.int)) ∧ ns.length ≤ 1000 ∧ (∀ n ∈ ns, n.natAbs < 10 ^ 500) ∧ ∀ H', Same H H' → Q (.str (S (TL.joinL [32] (ns.map decL)))) H'
theorem space_S : PySem.Str.ofString " " = S [32] := ofS " "
theorem lens_le {ns : List Int} (h : ∀ n ∈ ns, n.natAbs < 10 ^ 500) : ((ns.map fun n => S (decL n)).map (·.length)).sum ≤ ns.length * 501 := by
  induction ns with
  | nil => exact Nat.le_refl _
  | cons n r ih =>
    have h1 := dec500 (h n (List.mem_cons_self ..))
    have h2 := ih fun m hm => h m (List.mem_cons_of_mem _ hm)
    rw [List.map_cons, List.map_cons, List.sum_cons, List.length_cons, S_len, Nat.add_mul]
    omega
theorem join_decs (ns : List Int) : Txt.join (PySem.Str.ofString " ") (ns.map fun n => S (decL n)) = S (TL.joinL [32] (ns.map decL)) := by
  rw [space_S, ← join_S, List.map_map]
  rfl
abbrev st_format_chain : Stmt := top 11
theorem sc_fmtC : FnScope ["chain", "time"] ["chain"] (defScope st_format_chain) := ⟨rfl, rfl, rfl, by decide +kernel, rfl, by decide +kernel, by decide +kernel⟩
theorem ok_fmtC (a : At K mg "format_chain" st_format_chain ["chain"] f) (T : Nm K mg base) : Df P w K mg base CX0 1 "format_chain" f (spFmtC K) := by
  have nd := sc_fmtC.nd
  refine a.ok sc_fmtC (fun vs H Q E h => ?_) (fun cdv A outer s H vs Q E hr h => ?_)
  · obtain ⟨a, ns, rfl, _⟩ := h
    rfl
  · obtain ⟨a, ns, rfl, hs | hs, len, small, k⟩ := h
    · refine ⟨_, (pss_one (ps_ret (pe_join pe_str (pe_lc (own := [("time", 1)]) (g := gName 1) rfl nd (pi_list (pv 0)) (blkOk_by (own := [("time", 1)]) (N := ["chain", "time"]) (sc := defScope st_format_chain) (by decide +kernel)) (fun _ _ _ _ _ => pg_name (i := 1) nd rfl (Or.inl rfl)) (fun _ _ _ _ _ => pts_nil) (fun _ _ _ _ _ => (pe_callTy call_str_int (by rfl) T.n_str (by decide +kernel) (pa_cons (pv 1) pa_nil))))))), ?_⟩
      refine ⟨⟨_, rfl⟩, _, rfl, a, rfl, ⟨_, hs⟩, fun D hD => lc_list (K := K) (a := a) (xs := ns.map V.int) (fun i H2 => Bes D H H2 ∧ H2 D = some (.lst (((ns.take i).map fun n => S (decL n)).map V.str))) ⟨bes_start, upd_same⟩ ?_ ?_ ?_⟩
      · rintro i H2 _ ⟨b2, _⟩
        exact Same.seq (same_new hD b2) hs
      · rintro i x H2 hx ⟨b2, l2⟩
        rw [List.getElem?_map] at hx
        cases e : ns[i]? with
        | none => rw [e] at hx; cases hx
        | some n =>
          rw [e] at hx
          obtain rfl : V.int n = x := Option.some.inj hx
          refine ⟨rfl, _, rfl, n, rfl, log_dec (small n (List.mem_of_getElem? e)), _, l2, ?_, bes_put b2, ?_⟩
          · rw [List.length_map, List.length_map, List.length_take]
            exact Nat.lt_of_le_of_lt (Nat.min_le_right _ _) (small1000 len)
          · rw [upd_same, take_more e, List.map_append, List.map_append, List.map_singleton, List.map_singleton, ← dec_S]
      · rintro H2 ⟨b2, l2⟩
        rw [List.length_map, List.take_length] at l2
        refine ⟨_, D, _, rfl, rfl, .inl (SqL.of l2), ?_, ?_⟩
        · have h1 := lens_le small
          rw [List.length_map]
          have h2 : (PySem.Str.ofString " ").length = 1 := by rw [space_S]; rfl
          rw [h2]
          omega
        · rw [join_decs]
          exact k H2 (same_new hD b2)
    · refine ⟨_, (pss_one (ps_ret (pe_join pe_str (pe_lc (own := [("time", 1)]) (g := gName 1) rfl nd (pi_tup (pv 0)) (blkOk_by (own := [("time", 1)]) (N := ["chain", "time"]) (sc := defScope st_format_chain) (by decide +kernel)) (fun _ _ _ _ _ => pg_name (i := 1) nd rfl (Or.inl rfl)) (fun _ _ _ _ _ => pts_nil) (fun _ _ _ _ _ => (pe_callTy call_str_int (by rfl) T.n_str (by decide +kernel) (pa_cons (pv 1) pa_nil))))))), ?_⟩
      refine ⟨⟨_, rfl⟩, _, rfl, a, rfl, ⟨_, hs⟩, fun D hD => lc_tup (K := K) (a := a) (xs := ns.map V.int) (fun i H2 => Bes D H H2 ∧ H2 D = some (.lst (((ns.take i).map fun n => S (decL n)).map V.str))) ⟨bes_start, upd_same⟩ ?_ ?_ ?_⟩
      · rintro i H2 _ ⟨b2, _⟩
        exact Same.t (same_new hD b2) hs
      · rintro i x H2 hx ⟨b2, l2⟩
        rw [List.getElem?_map] at hx
        cases e : ns[i]? with
        | none => rw [e] at hx; cases hx
        | some n =>
          rw [e] at hx
          obtain rfl : V.int n = x := Option.some.inj hx
          refine ⟨rfl, _, rfl, n, rfl, log_dec (small n (List.mem_of_getElem? e)), _, l2, ?_, bes_put b2, ?_⟩
          · rw [List.length_map, List.length_map, List.length_take]
            exact Nat.lt_of_le_of_lt (Nat.min_le_right _ _) (small1000 len)
          · rw [upd_same, take_more e, List.map_append, List.map_append, List.map_singleton, List.map_singleton, ← dec_S]
      · rintro H2 ⟨b2, l2⟩
        rw [List.length_map, List.take_length] at l2
        refine ⟨_, D, _, rfl, rfl, .inl (SqL.of l2), ?_, ?_⟩
        · have h1 := lens_le small
          rw [List.length_map]
          have h2 : (PySem.Str.ofString " ").length = 1 := by rw [space_S]; rfl
          rw [h2]
          omega
        · rw [join_decs]
          exact k H2 (same_new hD b2)
/-- what a chain is told by -/
def ansC (o : Option (List Int)) (H : Hp) (Q : VK) : Prop := match o with
  | none => ∀ H', Same H H' → Q .non H'
  | some ns => ∀ H' p, Same H H' → H p = none → H' p = some (.lst (ns.map V.int)) → Q (.ref p) H'
theorem ansC_none {H H' : Hp} {Q : VK} {o : Option (List Int)} (h : ansC o H Q) (e : o = none) (s : Same H H') : Q .non H' := by
  subst e
  exact h H' s
theorem ansC_some {H H' : Hp} {Q : VK} {o : Option (List Int)} {ns : List Int} {p : Addr} (h : ansC o H Q) (e : o = some ns) (s : Same H H') (fr : H p = none) (hp : H' p = some (.lst (ns.map V.int))) : Q (.ref p) H' := by
  subst e
  exact h H' p s fr hp
def fracD (d : PyData) : Option (Int × Int) := (txt? d).bind fracOf
def chainD (d : PyData) : Option (List Int) := (txt? d).bind chainOf
/-- _law_fraction_in, _law_chain_in -/
def spLF (K : PySem.W.Frag) : Sp := fun vs H Q _ => ∃ (v : V) (d : PyData), vs = [v] ∧ Th K H v d ∧ ansP (fracD d) H Q
def spLC (K : PySem.W.Frag) : Sp := fun vs H Q _ => ∃ (v : V) (d : PyData), vs = [v] ∧ Th K H v d ∧ ansC (chainD d) H Q
/-- parse_fraction, parse_chain; C: the error's class -/
def errs (C : Addr) (v : V) (H : Hp) (E : XK) : Prop := ∀ H' dd, Same H H' → H' dd = some (.xd [("value", v)]) → E (.ref C) (some dd) H'
def spPF (K : PySem.W.Frag) (C : Addr) : Sp := fun vs H Q E => ∃ (v : V) (d : PyData), vs = [v] ∧ Th K H v d ∧ (fracD d = none → errs C v H E) ∧ (fracD d ≠ none → ansP (fracD d) H Q)
def spPC (K : PySem.W.Frag) (C : Addr) : Sp := fun vs H Q E => ∃ (v : V) (d : PyData), vs = [v] ∧ Th K H v d ∧ (chainD d = none → errs C v H E) ∧ (chainD d ≠ none → ansC (chainD d) H Q)
def pairD (d : PyData) : Option (Int × Int) := (txt? d).bind pairOf
def frac2 (o : Option (Int × Int)) : Option (Int × Int) := match o with
  | none => none
  | some (a, b) => if b < 1 then none else if a / g2 a b = a ∧ b / g2 a b = b then some (a, b) else none
theorem fracD_eq (d : PyData) : fracD d = frac2 (pairD d) := by
  unfold fracD pairD
  cases txt? d with
  | none => rfl
  | some l => rfl
theorem pairD_small {d : PyData} {a b : Int} (h : pairD d = some (a, b)) : a.natAbs < 10 ^ 1000 ∧ b.natAbs < 10 ^ 1000 := by
  unfold pairD at h
  cases e : txt? d with
  | none => rw [e] at h; cases h
  | some l =>
    rw [e] at h
    exact pair_small h
/-- what the first line leaves of the pair -/
def PairIs (d : PyData) (x : V) (H' : Hp) : Prop := (pairD d = none ∧ x = .non) ∨ ∃ (a b : Int) (p : Addr), pairD d = some (a, b) ∧ x = .ref p ∧ H' p = some (.tup [.int a, .int b])
theorem ask_pair {d : PyData} {l : List Nat} {H : Hp} {Q : VK} (e : txt? d = some l) (k : ∀ x H', Same H H' → PairIs d x H' → Q x H') : ansP (pairOf l) H Q := by
  have e2 : pairD d = pairOf l := by unfold pairD; rw [e]; rfl
  unfold ansP
  cases h : pairOf l with
  | none => exact fun H' s => k _ _ s (.inl ⟨e2.trans h, rfl⟩)
  | some ab =>
    obtain ⟨a, b⟩ := ab
    exact fun H' p s hp => k _ _ s (.inr ⟨a, b, p, e2.trans h, rfl, hp⟩)
theorem no_pair {d : PyData} (h : isS d = false) : pairD d = none := by
  unfold pairD
  rw [txt_none h]
  rfl
theorem same_pair {a b x y : Int} : (([x, y] : List Int) = [a, b]) ↔ (x = a ∧ y = b) := by simp
abbrev st_lfrac : Stmt := top 25
theorem sc_lfrac : FnScope ["thing", "pair"] ["thing"] (defScope st_lfrac) := ⟨rfl, rfl, rfl, by decide +kernel, rfl, by decide +kernel, by decide +kernel⟩
theorem ok_lfrac {g1 g2' : Addr} (a : At K mg "_law_fraction_in" st_lfrac ["thing"] f) (T : Nm K mg base) (c__law_pair_in : Df P w K mg base CX0 2 "_law_pair_in" g1 spPair) (c__law_fraction : Df P w K mg base CX0 2 "_law_fraction" g2' spFrac) :
    Df P w K mg base CX0 3 "_law_fraction_in" f (spLF K) := by
  have nd := sc_lfrac.nd
  refine a.ok sc_lfrac (fun vs H Q E h => ?_) (fun cdv A outer s H vs Q E hr h => ?_)
  · obtain ⟨v, d, rfl, _⟩ := h
    rfl
  · obtain ⟨v, d, rfl, th, k⟩ := h
    refine ⟨_, (C8.pss_cut (ps_set (i := 1) nd rfl (Or.inl rfl) (pe_ifExp (pt_val (pe_callB call_isi (by rfl) T.n_isinstance (by decide +kernel) (pa_cons (pv 0) (pa_cons (pe_bltn (v := .ty "str") (by rfl) T.n_str (by decide +kernel) rfl) pa_nil)))) (pe_k c__law_pair_in hr (by decide) rfl (pa_cons (pv 0) (pa_cons pe_str pa_nil))) pe_non))
    (pss_cons (ps_if (PW.pt (pw_or (pt_cmpR op_isN (pv 1) pe_non (nomark _)) (pw_or1 (pt_cmpR op_lt (pe_ix ix_tup (pv 1) pe_int (fun _ _ => rfl)) pe_int (nomark _))))) (pss_one (ps_ret pe_non)) pss_nil)
    (pss_one (ps_ret (pe_ifExp (pt_cmpR (op_eqD hr.units) (pe_k c__law_fraction hr (by decide) rfl (pa_cons (pe_ix ix_tup (pv 1) pe_int (fun _ _ => rfl)) (pa_cons (pe_ix ix_tup (pv 1) pe_int (fun _ _ => rfl)) pa_nil))) (pv 1) (nomark _)) (pv 1) pe_non))))), ?_⟩
    refine ⟨fun σ' H' => ∃ x, σ' = [some v, some x] ∧ Same H H' ∧ PairIs d x H', ?_, ?_⟩
    · refine ⟨_, rfl, v, .ty "str", .type (tyN d), .type "str", isS d, rfl, .ty "str", dv_ty th.dv, kit_str K d, _, rfl, ite2 (fun z => ?_) (fun z => ?_)⟩
      · obtain ⟨l, e1, e2, e3⟩ := dv_str th.dv z
        subst e1
        refine ⟨_, rfl, l, rfl, by have := th.tx _ e2; rw [S_len] at this; exact this, ask_pair e3 fun x H' s p => ⟨x, rfl, s, p⟩⟩
      · rw [Bool.not_eq_true] at z
        exact ⟨_, rfl, Same.refl H, .inl ⟨no_pair z, rfl⟩⟩
    · rintro σ' H' ⟨x, rfl, s1, ⟨e, rfl⟩ | ⟨a, b, p, e, rfl, hp⟩⟩
      · refine ⟨_, rfl, rfl, _, rfl, ifY (decide_eq_true rfl) (iteT (ansP_none k ?_ s1))⟩
        rw [fracD_eq, e]
        rfl
      · have at0 : atI [V.int a, V.int b] 0 = some (V.int a) := atI_nat (j := 0) rfl
        have at1 : atI [V.int a, V.int b] 1 = some (V.int b) := atI_nat (j := 1) rfl
        have fr : fracD d = if b < 1 then none else if a / g2 a b = a ∧ b / g2 a b = b then some (a, b) else none := by rw [fracD_eq, e]; rfl
        refine ⟨_, rfl, rfl, _, rfl, ifN (decide_eq_false fun z => by cases z) ⟨_, rfl, p, _, 1, _, rfl, rfl, SqT.of hp, at1, _, _, rfl, rfl, _, rfl, ite2 (fun z => ?_) (fun z => ?_)⟩⟩
        · have z := of_decide_eq_true z
          exact ansP_none k (by rw [fr, if_pos z]) s1
        · have z : ¬ b < 1 := fun c => z (decide_eq_true c)
          refine ⟨_, rfl, p, _, 0, _, rfl, rfl, SqT.of hp, at0, _, rfl, p, _, 1, _, rfl, rfl, SqT.of hp, at1, a, b, rfl, by omega, pow_dec (pairD_small e).2, fun q hq => ?_⟩
          have hp2 : (upd H' q (.tup [.int (a / g2 a b), .int (b / g2 a b)])) p = some (.tup [.int a, .int b]) := new_same hq _ _ hp
          refine ⟨_, rfl, _, _, Dp.intsT (ns := [a / g2 a b, b / g2 a b]) (SqT.of upd_same), Dp.intsT (ns := [a, b]) (SqT.of hp2), shaped_intsT _, shaped_intsT _, _, rfl, ?_⟩
          rw [eqv_tup_ints]
          refine ite2 (fun c => ⟨_, rfl, ?_⟩) (fun c => ?_)
          · have c := same_pair.mp (of_decide_eq_true c)
            exact ansP_some k (by rw [fr, if_neg z, if_pos c]) (s1.trans (new_same hq)) hp2
          · have c : ¬ (a / g2 a b = a ∧ b / g2 a b = b) := fun c2 => c (decide_eq_true (same_pair.mpr c2))
            exact ansP_none k (by rw [fr, if_neg z, if_neg c]) (s1.trans (new_same hq))
abbrev st_pf : Stmt := top 12
theorem sc_pf : FnScope ["text", "pair"] ["text"] (defScope st_pf) := ⟨rfl, rfl, rfl, by decide +kernel, rfl, by decide +kernel, by decide +kernel⟩
theorem ok_pf {g1 g2' C fI : Addr} (a : At K mg "parse_fraction" st_pf ["text"] f) (T : Nm K mg base) (pe : PySem.PeX.PeTxt K mg C fI) (c_pair_in : Df P w K mg base CX0 2 "pair_in" g1 spPair) (c_reduced : Df P w K mg base CX0 2 "reduced" g2' spFrac) :
    Df P w K mg base (L2.CX P w) 3 "parse_fraction" f (spPF K C) := by
  have nd := sc_pf.nd
  refine a.okX sc_pf (fun vs H Q E h => ?_) (fun cdv A outer s H vs Q E hr h => ?_)
  · obtain ⟨v, d, rfl, _⟩ := h
    rfl
  · obtain ⟨v, d, rfl, th, er, k⟩ := h
    refine ⟨_, (C8.pss_cut (ps_set (i := 1) nd rfl (Or.inl rfl) (pe_ifExp (pt_val (pe_callB call_isi (by rfl) T.n_isinstance (by decide +kernel) (pa_cons (pv 0) (pa_cons (pe_bltn (v := .ty "str") (by rfl) T.n_str (by decide +kernel) rfl) pa_nil)))) (pe_k c_pair_in hr (by decide) rfl (pa_cons (pv 0) (pa_cons pe_str pa_nil))) pe_non))
    (pss_cons (ps_if (PW.pt (pw_or (pt_cmpR op_isN (pv 1) pe_non (nomark _)) (pw_or (pt_cmpR op_lt (pe_ix ix_tup (pv 1) pe_int (fun _ _ => rfl)) pe_int (nomark _)) (pw_or1 (pt_cmpR (op_neD hr.units) (pe_k c_reduced hr (by decide) rfl (pa_cons (pe_ix ix_tup (pv 1) pe_int (fun _ _ => rfl)) (pa_cons (pe_ix ix_tup (pv 1) pe_int (fun _ _ => rfl)) pa_nil))) (pv 1) (nomark _)))))) (pss_one (ps_raisePe rfl pe hr (takes_of rfl rfl rfl rfl) (pa_cons (pv 0) pa_nil))) pss_nil)
    (pss_one (ps_ret (pv 1))))), ?_⟩
    refine ⟨fun σ' H' => ∃ x, σ' = [some v, some x] ∧ Same H H' ∧ PairIs d x H', ?_, ?_⟩
    · refine ⟨_, rfl, v, .ty "str", .type (tyN d), .type "str", isS d, rfl, .ty "str", dv_ty th.dv, kit_str K d, _, rfl, ite2 (fun z => ?_) (fun z => ?_)⟩
      · obtain ⟨l, e1, e2, e3⟩ := dv_str th.dv z
        subst e1
        refine ⟨_, rfl, l, rfl, by have := th.tx _ e2; rw [S_len] at this; exact this, ask_pair e3 fun x H' s p => ⟨x, rfl, s, p⟩⟩
      · rw [Bool.not_eq_true] at z
        exact ⟨_, rfl, Same.refl H, .inl ⟨no_pair z, rfl⟩⟩
    · rintro σ' H' ⟨x, rfl, s1, ⟨e, rfl⟩ | ⟨a, b, p, e, rfl, hp⟩⟩
      · refine ⟨_, rfl, rfl, _, rfl, ifY (decide_eq_true rfl) (iteT ⟨_, rfl, v, rfl, fun dd hdd => er ?_ _ _ (s1.trans (new_same hdd)) upd_same⟩)⟩
        rw [fracD_eq, e]
        rfl
      · have at0 : atI [V.int a, V.int b] 0 = some (V.int a) := atI_nat (j := 0) rfl
        have at1 : atI [V.int a, V.int b] 1 = some (V.int b) := atI_nat (j := 1) rfl
        have fr : fracD d = if b < 1 then none else if a / g2 a b = a ∧ b / g2 a b = b then some (a, b) else none := by rw [fracD_eq, e]; rfl
        refine ⟨_, rfl, rfl, _, rfl, ifN (decide_eq_false fun z => by cases z) ⟨_, rfl, p, _, 1, _, rfl, rfl, SqT.of hp, at1, _, _, rfl, rfl, _, rfl, ite2 (fun z => ?_) (fun z => ?_)⟩⟩
        · have z := of_decide_eq_true z
          exact iteT ⟨_, rfl, v, rfl, fun dd hdd => er (by rw [fr, if_pos z]) _ _ (s1.trans (new_same hdd)) upd_same⟩
        · have z : ¬ b < 1 := fun c => z (decide_eq_true c)
          refine ⟨_, rfl, p, _, 0, _, rfl, rfl, SqT.of hp, at0, _, rfl, p, _, 1, _, rfl, rfl, SqT.of hp, at1, a, b, rfl, by omega, pow_dec (pairD_small e).2, fun q hq => ?_⟩
          have hp2 : (upd H' q (.tup [.int (a / g2 a b), .int (b / g2 a b)])) p = some (.tup [.int a, .int b]) := new_same hq _ _ hp
          refine ⟨_, rfl, _, _, Dp.intsT (ns := [a / g2 a b, b / g2 a b]) (SqT.of upd_same), Dp.intsT (ns := [a, b]) (SqT.of hp2), shaped_intsT _, shaped_intsT _, _, rfl, ?_⟩
          rw [eqv_tup_ints]
          by_cases c : a / g2 a b = a ∧ b / g2 a b = b
          · refine ifN (by rw [decide_eq_true (same_pair.mpr c)]; rfl) ⟨_, rfl, ?_⟩
            have fs : fracD d = some (a, b) := by rw [fr, if_neg z, if_pos c]
            exact ansP_some (k (by rw [fs]; exact fun z => by cases z)) fs (s1.trans (new_same hq)) hp2
          · refine ifY (by rw [decide_eq_false fun y => c (same_pair.mp y)]; rfl) ⟨_, rfl, v, rfl, fun dd hdd => er (by rw [fr, if_neg z, if_neg c]) _ _ ((s1.trans (new_same hq)).trans (new_same hdd)) upd_same⟩
theorem space_all : [32].all (· < 256) = true := by decide
theorem chain_eq {d : PyData} {l : List Nat} (e : txt? d = some l) : chainD d = all2 ((TL.spl [32] 0 [] l).map numOf) := by
  unfold chainD
  rw [e]
  rfl
theorem no_chain {d : PyData} (h : isS d = false) : chainD d = none := by
  unfold chainD
  rw [txt_none h]
  rfl
theorem opts_some {os : List (Option Int)} {ns : List Int} (h : all2 os = some ns) : os.map optV = ns.map V.int := by
  rw [all2_some h, List.map_map]
  rfl
abbrev st__law_chain_in : Stmt := top 26
theorem sc__law_chain_in : FnScope ["thing", "times", "word"] ["thing"] (defScope st__law_chain_in) := ⟨rfl, rfl, rfl, by decide +kernel, rfl, by decide +kernel, by decide +kernel⟩
theorem ok__law_chain_in {g C fI : Addr} (a : At K mg "_law_chain_in" st__law_chain_in ["thing"] f) (T : Nm K mg base) (c__law_int_in : Df P w K mg base CX0 1 "_law_int_in" g spInt) :
    Df P w K mg base CX0 2 "_law_chain_in" f (spLC K) := by
  have nd := sc__law_chain_in.nd
  refine a.ok sc__law_chain_in (fun vs H Q E h => ?_) (fun cdv A outer s H vs Q E hr h => ?_)
  · obtain ⟨v, d, rfl, _⟩ := h
    rfl
  · obtain ⟨v, d, rfl, th, k⟩ := h
    refine ⟨_, (C8.pss_cut (ps_set (i := 1) nd rfl (Or.inl rfl) (pe_ifExp (pt_val (pe_callB call_isi (by rfl) T.n_isinstance (by decide +kernel) (pa_cons (pv 0) (pa_cons (pe_bltn (v := .ty "str") (by rfl) T.n_str (by decide +kernel) rfl) pa_nil)))) (pe_lc (own := [("word", 2)]) (g := gName 2) rfl nd (pi_list (pe_split (pv 0) pe_str)) (blkOk_by (own := [("word", 2)]) (N := ["thing", "times", "word"]) (sc := defScope st__law_chain_in) (by decide +kernel)) (fun _ _ _ _ _ => pg_name (i := 2) nd rfl (Or.inl rfl)) (fun _ _ _ _ _ => pts_nil) (fun _ _ _ _ _ => (pe_k c__law_int_in hr (by decide) rfl (pa_cons (pv 2) pa_nil)))) (pe_lst (pa_cons pe_non pa_nil))))
    (pss_one (ps_ret (pe_ifExp (pt_cmpR op_in_seq pe_non (pv 1) rfl) pe_non (pv 1))))), ?_⟩
    refine ⟨fun σ' H' => ∃ (p : Addr) (os : List (Option Int)), σ' = [some v, some (.ref p), none] ∧ Same H H' ∧ H p = none ∧ H' p = some (.lst (os.map optV)) ∧ all2 os = chainD d, ?_, ?_⟩
    · refine ⟨_, rfl, v, .ty "str", .type (tyN d), .type "str", isS d, rfl, .ty "str", dv_ty th.dv, kit_str K d, _, rfl, ite2 (fun z => ?_) (fun z => ?_)⟩
      · obtain ⟨l, e1, e2, e3⟩ := dv_str th.dv z
        subst e1
        have len : l.length + 2 ≤ sizeLine := by have := th.tx _ e2; rw [S_len] at this; exact this
        refine ⟨_, rfl, ⟨_, rfl⟩, S l, _, rfl, rfl, (by decide +kernel), by rw [S_len]; exact len, fun t ht => ?_⟩
        rw [chain_eq e3, space_S, split_S (by decide) space_all]
        generalize hps : TL.spl [32] 0 [] l = ps
        have pc : ps.length ≤ l.length + 1 := by rw [← hps]; exact spl_count 32 l
        have pl : ∀ p ∈ ps, p.length ≤ l.length := fun p hp => by rw [← hps] at hp; exact spl_part_le hp
        have s1 : Same H (upd H t (.lst ((ps.map S).map V.str))) := new_same ht
        have ht1 : (upd H t (.lst ((ps.map S).map V.str))) t = some (.lst ((ps.map S).map V.str)) := upd_same
        generalize upd H t (.lst ((ps.map S).map V.str)) = H1 at s1 ht1
        refine ⟨t, rfl, ⟨_, SqL.of ht1⟩, fun D hD => lc_list (K := K) (a := t) (xs := (ps.map S).map V.str) (fun i H2 => Bes D H1 H2 ∧ H2 D = some (.lst (((ps.take i).map numOf).map optV))) ⟨bes_start, upd_same⟩ ?_ ?_ ?_⟩
        · rintro i H2 _ ⟨b2, _⟩
          exact Same.seq (same_new hD b2) (SqL.of ht1)
        · rintro i x H2 hx ⟨b2, l2⟩
          rw [List.getElem?_map, List.getElem?_map] at hx
          cases e : ps[i]? with
          | none => rw [e] at hx; cases hx
          | some p =>
            rw [e] at hx
            obtain rfl : V.str (S p) = x := Option.some.inj hx
            have hp := pl p (List.mem_of_getElem? e)
            refine ⟨rfl, _, rfl, p, rfl, by omega, fun H3 s3 => ⟨_, s3 _ _ l2, ?_, fun b o n hb => ?_, ?_⟩⟩
            · rw [List.length_map, List.length_map, List.length_take]
              omega
            · rw [upd_ne n]
              exact s3 _ _ (b2 b o n hb)
            · rw [upd_same, take_more e, List.map_append, List.map_append]
              rfl
        · rintro H2 ⟨b2, l2⟩
          rw [List.length_map, List.length_map, List.take_length] at l2
          exact ⟨D, ps.map numOf, rfl, s1.trans (same_new hD b2), s1.free hD, l2, rfl⟩
      · rw [Bool.not_eq_true] at z
        refine ⟨(by show 1 ≤ sizeLine; decide), fun p hp => ⟨p, [none], rfl, new_same hp, hp, upd_same, (no_chain z).symm⟩⟩
    · rintro σ' H' ⟨p, os, rfl, s1, fr, hp, e⟩
      refine ⟨_, rfl, p, _, rfl, .inl (SqL.of hp), rfl, opts_flat _, _, rfl, ?_⟩
      show if inV .non (os.map optV) = true then _ else _
      rw [opt_in, e]
      cases e2 : chainD d with
      | none => exact iteT (ansC_none k e2 s1)
      | some ns => exact iteF ⟨_, rfl, ansC_some k e2 s1 fr (by rw [hp, opts_some (e.trans e2)])⟩
abbrev st_parse_chain : Stmt := top 13
theorem sc_parse_chain : FnScope ["text", "times", "word"] ["text"] (defScope st_parse_chain) := ⟨rfl, rfl, rfl, by decide +kernel, rfl, by decide +kernel, by decide +kernel⟩
theorem ok_parse_chain {g C fI : Addr} (a : At K mg "parse_chain" st_parse_chain ["text"] f) (T : Nm K mg base) (pe : PySem.PeX.PeTxt K mg C fI) (c_integer_in : Df P w K mg base CX0 1 "integer_in" g spInt) :
    Df P w K mg base (L2.CX P w) 2 "parse_chain" f (spPC K C) := by
  have nd := sc_parse_chain.nd
  refine a.okX sc_parse_chain (fun vs H Q E h => ?_) (fun cdv A outer s H vs Q E hr h => ?_)
  · obtain ⟨v, d, rfl, _⟩ := h
    rfl
  · obtain ⟨v, d, rfl, th, er, k⟩ := h
    refine ⟨_, (C8.pss_cut (ps_set (i := 1) nd rfl (Or.inl rfl) (pe_ifExp (pt_val (pe_callB call_isi (by rfl) T.n_isinstance (by decide +kernel) (pa_cons (pv 0) (pa_cons (pe_bltn (v := .ty "str") (by rfl) T.n_str (by decide +kernel) rfl) pa_nil)))) (pe_lc (own := [("word", 2)]) (g := gName 2) rfl nd (pi_list (pe_split (pv 0) pe_str)) (blkOk_by (own := [("word", 2)]) (N := ["text", "times", "word"]) (sc := defScope st_parse_chain) (by decide +kernel)) (fun _ _ _ _ _ => pg_name (i := 2) nd rfl (Or.inl rfl)) (fun _ _ _ _ _ => pts_nil) (fun _ _ _ _ _ => (pe_k c_integer_in hr (by decide) rfl (pa_cons (pv 2) pa_nil)))) (pe_lst (pa_cons pe_non pa_nil))))
    (pss_cons (ps_if (pt_cmpR op_in_seq pe_non (pv 1) rfl) (pss_one (ps_raisePe rfl pe hr (takes_of rfl rfl rfl rfl) (pa_cons (pv 0) pa_nil))) pss_nil)
    (pss_one (ps_ret (pv 1))))), ?_⟩
    refine ⟨fun σ' H' => ∃ (p : Addr) (os : List (Option Int)), σ' = [some v, some (.ref p), none] ∧ Same H H' ∧ H p = none ∧ H' p = some (.lst (os.map optV)) ∧ all2 os = chainD d, ?_, ?_⟩
    · refine ⟨_, rfl, v, .ty "str", .type (tyN d), .type "str", isS d, rfl, .ty "str", dv_ty th.dv, kit_str K d, _, rfl, ite2 (fun z => ?_) (fun z => ?_)⟩
      · obtain ⟨l, e1, e2, e3⟩ := dv_str th.dv z
        subst e1
        have len : l.length + 2 ≤ sizeLine := by have := th.tx _ e2; rw [S_len] at this; exact this
        refine ⟨_, rfl, ⟨_, rfl⟩, S l, _, rfl, rfl, (by decide +kernel), by rw [S_len]; exact len, fun t ht => ?_⟩
        rw [chain_eq e3, space_S, split_S (by decide) space_all]
        generalize hps : TL.spl [32] 0 [] l = ps
        have pc : ps.length ≤ l.length + 1 := by rw [← hps]; exact spl_count 32 l
        have pl : ∀ p ∈ ps, p.length ≤ l.length := fun p hp => by rw [← hps] at hp; exact spl_part_le hp
        have s1 : Same H (upd H t (.lst ((ps.map S).map V.str))) := new_same ht
        have ht1 : (upd H t (.lst ((ps.map S).map V.str))) t = some (.lst ((ps.map S).map V.str)) := upd_same
        generalize upd H t (.lst ((ps.map S).map V.str)) = H1 at s1 ht1
        refine ⟨t, rfl, ⟨_, SqL.of ht1⟩, fun D hD => lc_list (K := K) (a := t) (xs := (ps.map S).map V.str) (fun i H2 => Bes D H1 H2 ∧ H2 D = some (.lst (((ps.take i).map numOf).map optV))) ⟨bes_start, upd_same⟩ ?_ ?_ ?_⟩
        · rintro i H2 _ ⟨b2, _⟩
          exact Same.seq (same_new hD b2) (SqL.of ht1)
        · rintro i x H2 hx ⟨b2, l2⟩
          rw [List.getElem?_map, List.getElem?_map] at hx
          cases e : ps[i]? with
          | none => rw [e] at hx; cases hx
          | some p =>
            rw [e] at hx
            obtain rfl : V.str (S p) = x := Option.some.inj hx
            have hp := pl p (List.mem_of_getElem? e)
            refine ⟨rfl, _, rfl, p, rfl, by omega, fun H3 s3 => ⟨_, s3 _ _ l2, ?_, fun b o n hb => ?_, ?_⟩⟩
            · rw [List.length_map, List.length_map, List.length_take]
              omega
            · rw [upd_ne n]
              exact s3 _ _ (b2 b o n hb)
            · rw [upd_same, take_more e, List.map_append, List.map_append]
              rfl
        · rintro H2 ⟨b2, l2⟩
          rw [List.length_map, List.length_map, List.take_length] at l2
          exact ⟨D, ps.map numOf, rfl, s1.trans (same_new hD b2), s1.free hD, l2, rfl⟩
      · rw [Bool.not_eq_true] at z
        refine ⟨(by show 1 ≤ sizeLine; decide), fun p hp => ⟨p, [none], rfl, new_same hp, hp, upd_same, (no_chain z).symm⟩⟩
    · rintro σ' H' ⟨p, os, rfl, s1, fr, hp, e⟩
      refine ⟨_, rfl, p, _, rfl, .inl (SqL.of hp), rfl, opts_flat _, _, rfl, ?_⟩
      show if inV .non (os.map optV) = true then _ else _
      rw [opt_in, e]
      cases e2 : chainD d with
      | none => exact iteT ⟨_, rfl, v, rfl, fun dd hdd => er e2 _ _ (s1.trans (new_same hdd)) upd_same⟩
      | some ns => exact iteF ⟨_, rfl, ansC_some (k (by rw [e2]; exact fun z => by cases z)) e2 s1 fr (by rw [hp, opts_some (e.trans e2)])⟩
end
end K90

namespace K90
open PySem L2 SmA SmM SX
/-- the error's class as the top has left it -/
structure ErrT (K : PySem.W.Frag) (mg : PySem.Str → Option Value) (C fI : Addr) : Prop where
  pe : PySem.PeX.PeTxt K mg C fI
  xc : ExcC K C
  xf : XfC K C
  n_VE : mg "ValueError" = none
  isV : PySem.W.kitOne K (.ref C) (.type "ValueError") = some true
section
variable {P : Program} {w : World} {K : PySem.W.Frag} {mg : PySem.Str → Option Value} {base : Heap} {f : Addr}
def resF (d : PyData) : Option PySem.Str := (fracD d).map fun ab => tupleText ([ab.1, ab.2].map dec)
def resC (d : PyData) : Option PySem.Str := (chainD d).map fun ns => listText (ns.map dec)
def told (o : Option PySem.Str) (kept : PySem.Str) : List V := match o with
  | some t => [.str "result", .str t]
  | none => [.str "error", .str kept, .bl true]
/-- _law_read(parse, thing) -/
def spRead (K : PySem.W.Frag) (fF fC : Addr) : Sp := fun vs H Q _ => ∃ (p : Addr) (v : V) (d : PyData) (o : Option PySem.Str), vs = [.ref p, v] ∧ Th K H v d ∧ ((p = fF ∧ o = resF d) ∨ (p = fC ∧ o = resC d)) ∧
  ∀ H' q, Same H H' → H' q = some (.lst (told o d.shown)) → Q (.ref q) H'
theorem chainD_small {d : PyData} {ns : List Int} (h : chainD d = some ns) : ∀ n ∈ ns, n.natAbs < 10 ^ 1000 := by
  unfold chainD at h
  cases e : txt? d with
  | none => rw [e] at h; cases h
  | some l =>
    rw [e] at h
    exact chain_small h
theorem chainD_len {K : PySem.W.Frag} {H : Hp} {v : V} {d : PyData} {ns : List Int} (th : Th K H v d) (h : chainD d = some ns) : ns.length ≤ 16001 := by
  cases d with
  | str x =>
    have h6 := th.t6 x rfl
    have h2 : all2 ((TL.spl [32] 0 [] x.cps.toList).map numOf) = some ns := h
    have h3 := congrArg List.length (all2_some h2)
    rw [List.length_map, List.length_map] at h3
    have h4 := spl_count 32 x.cps.toList
    have h5 : x.cps.toList.length = x.length := Array.length_toList
    omega
  | _ => cases h
theorem fracD_small {d : PyData} {a b : Int} (h : fracD d = some (a, b)) : ∀ n ∈ [a, b], n.natAbs < 10 ^ 1000 := by
  unfold fracD at h
  cases e : txt? d with
  | none => rw [e] at h; cases h
  | some l =>
    rw [e] at h
    have z := frac_small h
    intro n hn
    rcases List.mem_cons.mp hn with rfl | hn
    · exact z.1
    · rw [List.mem_singleton.mp hn]; exact z.2
abbrev st_read : Stmt := top 27
theorem sc_read : FnScope ["parse", "thing", "caught", "e"] ["parse", "thing"] (defScope st_read) := ⟨rfl, rfl, rfl, by decide +kernel, rfl, by decide +kernel, by decide +kernel⟩
theorem ok_read {fF fC C fI : Addr} (a : At K mg "_law_read" st_read ["parse", "thing"] f) (T : Nm K mg base) (X : ErrT K mg C fI) (cF : Df P w K mg base (L2.CX P w) 3 "parse_fraction" fF (spPF K C)) (cC : Df P w K mg base (L2.CX P w) 2 "parse_chain" fC (spPC K C)) :
    DfG P w K mg base CX0 4 "_law_read" f (spRead K fF fC) := by
  have nd := sc_read.nd
  obtain ⟨fdF, psF, okF, mF, kF, bF⟩ := cF.ex
  obtain ⟨fdC, psC, okC, mC, kC, bC⟩ := cC.ex
  refine a.okG sc_read (fun vs H Q E h => ?_) (fun cdv A outer s H vs Q E quiet hr h => ?_)
  · obtain ⟨p, v, d, o, rfl, _⟩ := h
    rfl
  · obtain ⟨p, v, d, o, rfl, th, ⟨rfl, rfl⟩ | ⟨rfl, rfl⟩, k⟩ := h
    · refine ⟨_, pss_cons (ps_set (i := 2) nd rfl (Or.inl rfl) pe_non)
        (pss_cons (ps_try_keep (i := 3) (tb := fun W => tRet (tLst (tCons (tC (.str "result")) (tCons (tCB (rReprB K) (tCons (tLoc 0 p (spPF K C) (WE W) (tCons (tVar 1) tNil)) tNil)) tNil)))) (ts := fun _ _ _ => tAsg (tVar 3) (gName 2)) (Wout := fun _ _ _ _ => False)
            rfl rfl nd rfl rfl ⟨rfl, by decide, Or.inl X.pe.gC⟩ takes0 rfl
          (fun W pn xe tk _ => by exact pss_one (ps_ret (pe_lst (pa_cons pe_str (pa_cons (pe_callB (call_reprB T.dig quiet hr.units) (by rfl) T.n_repr (by decide +kernel) (pa_cons (pe_l (i := 0) (cx := L2.CX P w) (k := 3) ⟨_, _, .inl okF, kF, bF⟩ (hr.mono (by decide)) rfl (.inl rfl) (fun σ => passAt tk σ) (pa_cons (pv 1) pa_nil)) pa_nil)) pa_nil)))))
          (fun a oe cls d pn hz hf => by exact pss_one (ps_set (i := 2) nd rfl (Or.inl rfl) (pv 3))))
        (pss_one (ps_ret (pe_lst (pa_cons pe_str (pa_cons (pe_callB (call_repr T.sys quiet hr.units) (by rfl) T.n_repr (by decide +kernel) (pa_cons (pe_xt X.xf X.pe.noN (pv 2)) pa_nil)) (pa_cons (pe_callB (call_isX X.xc) (by rfl) T.n_isinstance (by decide +kernel) (pa_cons (pv 2) (pa_cons (pe_bltn (v := .ty "ValueError") (by rfl) X.n_VE (by decide +kernel) rfl) pa_nil))) pa_nil))))))), ?_⟩
      refine ⟨rfl, _, rfl, v, d, rfl, th, fun e H' dd s1 hd => ?_, fun ne => ?_⟩
      · refine ⟨true, X.pe.te, fun _ a ha => ?_, fun q => nomatch q⟩
        refine ⟨_, rfl, fun ha2 => ?_⟩
        have s2 : Same H (upd H' a (ExT a (.ref C) (some dd))) := s1.trans (new_same ha)
        have e1 : (upd H' a (ExT a (.ref C) (some dd))) a = some (ExT a (.ref C) (some dd)) := upd_same
        have e2 : (upd H' a (ExT a (.ref C) (some dd))) dd = some (.xd [("value", v)]) := new_same ha _ _ hd
        generalize upd H' a (ExT a (.ref C) (some dd)) = H2 at s2 e1 e2
        have l : List.lookup ("value" : PySem.Str) [(("value" : PySem.Str), v)] = some v := by simp [List.lookup]
        have th2 := th.same s2
        refine ⟨_, rfl, a, dd, _, v, rfl, e1, e2, l, v, d, rfl, th2.dv, th2.sh, th2.dp, th2.ln, ?_⟩
        refine ⟨_, rfl, a, dd, _, .ty "ValueError", .type "ValueError", true, rfl, e1, e2, (fun u r => r), X.isV, ?_⟩
        refine ⟨(by show 3 ≤ sizeLine; decide), fun q hq => k _ q (s2.trans (new_same hq)) ?_⟩
        rw [upd_same]
        unfold resF
        rw [e]
        rfl
      · cases e : fracD d with
        | none => exact absurd e ne
        | some ab =>
          obtain ⟨x, y⟩ := ab
          have sm := fracD_small e
          intro H' q s1 hq
          refine ⟨q, [x, y], rfl, fun n hn => great_dec (sm n hn), .inr ⟨SqT.of hq, tuple_fits sm (by show 2 ≤ 16001; decide), ?_⟩⟩
          refine ⟨(by show 2 ≤ sizeLine; decide), fun q hq => k _ q (s1.trans (new_same hq)) ?_⟩
          rw [upd_same]
          unfold resF
          rw [e]
          rfl
    · refine ⟨_, pss_cons (ps_set (i := 2) nd rfl (Or.inl rfl) pe_non)
        (pss_cons (ps_try_keep (i := 3) (tb := fun W => tRet (tLst (tCons (tC (.str "result")) (tCons (tCB (rReprB K) (tCons (tLoc 0 p (spPC K C) (WE W) (tCons (tVar 1) tNil)) tNil)) tNil)))) (ts := fun _ _ _ => tAsg (tVar 3) (gName 2)) (Wout := fun _ _ _ _ => False)
            rfl rfl nd rfl rfl ⟨rfl, by decide, Or.inl X.pe.gC⟩ takes0 rfl
          (fun W pn xe tk _ => by exact pss_one (ps_ret (pe_lst (pa_cons pe_str (pa_cons (pe_callB (call_reprB T.dig quiet hr.units) (by rfl) T.n_repr (by decide +kernel) (pa_cons (pe_l (i := 0) (cx := L2.CX P w) (k := 2) ⟨_, _, .inl okC, kC, bC⟩ (hr.mono (by decide)) rfl (.inl rfl) (fun σ => passAt tk σ) (pa_cons (pv 1) pa_nil)) pa_nil)) pa_nil)))))
          (fun a oe cls d pn hz hf => by exact pss_one (ps_set (i := 2) nd rfl (Or.inl rfl) (pv 3))))
        (pss_one (ps_ret (pe_lst (pa_cons pe_str (pa_cons (pe_callB (call_repr T.sys quiet hr.units) (by rfl) T.n_repr (by decide +kernel) (pa_cons (pe_xt X.xf X.pe.noN (pv 2)) pa_nil)) (pa_cons (pe_callB (call_isX X.xc) (by rfl) T.n_isinstance (by decide +kernel) (pa_cons (pv 2) (pa_cons (pe_bltn (v := .ty "ValueError") (by rfl) X.n_VE (by decide +kernel) rfl) pa_nil))) pa_nil))))))), ?_⟩
      refine ⟨rfl, _, rfl, v, d, rfl, th, fun e H' dd s1 hd => ?_, fun ne => ?_⟩
      · refine ⟨true, X.pe.te, fun _ a ha => ?_, fun q => nomatch q⟩
        refine ⟨_, rfl, fun ha2 => ?_⟩
        have s2 : Same H (upd H' a (ExT a (.ref C) (some dd))) := s1.trans (new_same ha)
        have e1 : (upd H' a (ExT a (.ref C) (some dd))) a = some (ExT a (.ref C) (some dd)) := upd_same
        have e2 : (upd H' a (ExT a (.ref C) (some dd))) dd = some (.xd [("value", v)]) := new_same ha _ _ hd
        generalize upd H' a (ExT a (.ref C) (some dd)) = H2 at s2 e1 e2
        have l : List.lookup ("value" : PySem.Str) [(("value" : PySem.Str), v)] = some v := by simp [List.lookup]
        have th2 := th.same s2
        refine ⟨_, rfl, a, dd, _, v, rfl, e1, e2, l, v, d, rfl, th2.dv, th2.sh, th2.dp, th2.ln, ?_⟩
        refine ⟨_, rfl, a, dd, _, .ty "ValueError", .type "ValueError", true, rfl, e1, e2, (fun u r => r), X.isV, ?_⟩
        refine ⟨(by show 3 ≤ sizeLine; decide), fun q hq => k _ q (s2.trans (new_same hq)) ?_⟩
        rw [upd_same]
        unfold resC
        rw [e]
        rfl
      · cases e : chainD d with
        | none => exact absurd e ne
        | some ns =>
          have sm := chainD_small e
          intro H' q s1 _ hq
          refine ⟨q, ns, rfl, fun n hn => great_dec (sm n hn), .inl ⟨SqL.of hq, list_fits sm (chainD_len th e), ?_⟩⟩
          refine ⟨(by show 2 ≤ sizeLine; decide), fun q hq => k _ q (s1.trans (new_same hq)) ?_⟩
          rw [upd_same]
          unfold resC
          rw [e]
          rfl
/-- what is due: None, or a flat tuple or list with its repr -/
def Due (K : PySem.W.Frag) (o : Option PySem.Str) (x : V) (H : Hp) : Prop := (o = none ∧ x = .non) ∨ ∃ (p : Addr) (ns : List Int) (t : PySem.Str), x = .ref p ∧ o = some t ∧ (∀ n ∈ ns, n.natAbs < 10 ^ 4300) ∧
  ((SqL K H p (ns.map V.int) ∧ (listText (ns.map dec)).length ≤ sizeLine ∧ t = listText (ns.map dec)) ∨ (SqT K H p (ns.map V.int) ∧ (tupleText (ns.map dec)).length ≤ sizeLine ∧ t = tupleText (ns.map dec)))
theorem Due.same {o : Option PySem.Str} {x : V} {H H' : Hp} (s : Same H H') (h : Due K o x H) : Due K o x H' := by
  rcases h with h | ⟨p, ns, t, h1, h2, h3, ⟨h4, h5⟩ | ⟨h4, h5⟩⟩
  · exact .inl h
  · exact .inr ⟨p, ns, t, h1, h2, h3, .inl ⟨Same.seq s h4, h5⟩⟩
  · exact .inr ⟨p, ns, t, h1, h2, h3, .inr ⟨Same.t s h4, h5⟩⟩
theorem due_F {d : PyData} {H : Hp} {Q : VK} (k : ∀ x H', Same H H' → Due K (resF d) x H' → Q x H') : ansP (fracD d) H Q := by
  unfold resF at k
  cases e : fracD d with
  | none =>
    rw [e] at k
    exact fun H' s => k _ _ s (.inl ⟨rfl, rfl⟩)
  | some ab =>
    obtain ⟨a, b⟩ := ab
    rw [e] at k
    have sm := fracD_small e
    exact fun H' p s hp => k _ _ s (.inr ⟨p, [a, b], _, rfl, rfl, fun n hn => great_dec (sm n hn), .inr ⟨SqT.of hp, tuple_fits sm (by show 2 ≤ 16001; decide), rfl⟩⟩)
theorem due_C {d : PyData} {v : V} {H0 H : Hp} {Q : VK} (th : Th K H0 v d) (k : ∀ x H', Same H H' → Due K (resC d) x H' → Q x H') : ansC (chainD d) H Q := by
  unfold resC at k
  cases e : chainD d with
  | none =>
    rw [e] at k
    exact fun H' s => k _ _ s (.inl ⟨rfl, rfl⟩)
  | some ns =>
    rw [e] at k
    have sm := chainD_small e
    exact fun H' p s _ hp => k _ _ s (.inr ⟨p, ns, _, rfl, rfl, fun n hn => great_dec (sm n hn), .inl ⟨SqL.of hp, list_fits sm (chainD_len th e), rfl⟩⟩)
/-- _law_decides(thing) -/
def spDec (K : PySem.W.Frag) : Sp := fun vs H Q _ => ∃ (v : V) (d : PyData), vs = [v] ∧ Th K H v d ∧ ∀ H', Same H H' → Q (.bl true) H'
theorem told_flat (o : Option PySem.Str) (kept : PySem.Str) : (told o kept).all flatV = true := by cases o <;> rfl
abbrev st_dec : Stmt := top 28
theorem sc_dec : FnScope ["thing", "kept", "parse", "due", "told"] ["thing"] (defScope st_dec) := ⟨rfl, rfl, rfl, by decide +kernel, rfl, by decide +kernel, by decide +kernel⟩
theorem ok_dec {fF fC g1 g2' g3 : Addr} (a : At K mg "_law_decides" st_dec ["thing"] f) (T : Nm K mg base) (mF : mg "parse_fraction" = some (.ref fF)) (mC : mg "parse_chain" = some (.ref fC))
    (c__law_fraction_in : Df P w K mg base CX0 3 "_law_fraction_in" g1 (spLF K)) (c__law_chain_in : Df P w K mg base CX0 2 "_law_chain_in" g2' (spLC K)) (c__law_read : DfG P w K mg base CX0 4 "_law_read" g3 (spRead K fF fC)) :
    DfG P w K mg base CX0 5 "_law_decides" f (spDec K) := by
  have nd := sc_dec.nd
  refine a.okQ sc_dec (fun vs H Q E h => ?_) (fun cdv A outer s H vs Q E quiet hr h => ?_)
  · obtain ⟨v, d, rfl, _⟩ := h
    rfl
  · obtain ⟨v, d, rfl, th, k⟩ := h
    refine ⟨_, (pss_cons (ps_set (i := 1) nd rfl (Or.inl rfl) (pe_callB (call_repr T.sys quiet hr.units) (by rfl) T.n_repr (by decide +kernel) (pa_cons (pv 0) pa_nil)))
    (pss_cons (ps_for PassesOwn.never rfl (pi_tup (pe_tup (pa_cons (pe_tup (pa_cons (pe_glob (v := .ref fF) rfl mF rfl) (pa_cons (pe_k c__law_fraction_in hr (by decide) rfl (pa_cons (pv 0) pa_nil)) pa_nil))) (pa_cons (pe_tup (pa_cons (pe_glob (v := .ref fC) rfl mC rfl) (pa_cons (pe_k c__law_chain_in hr (by decide) rfl (pa_cons (pv 0) pa_nil)) pa_nil))) pa_nil)))) (pg_tup rfl (pgs_cons (pg_name (i := 2) nd rfl (Or.inl rfl)) (pgs_cons (pg_name (i := 3) nd rfl (Or.inl rfl)) pgs_nil))) (C8.pss_cut (ps_set (i := 4) nd rfl (Or.inl rfl) (pe_ifExp (pt_cmpR op_isN (pv 3) pe_non (nomark _)) (pe_lst (pa_cons pe_str (pa_cons (pv 1) (pa_cons pe_bl pa_nil)))) (pe_lst (pa_cons pe_str (pa_cons (pe_callB (call_reprB T.dig quiet hr.units) (by rfl) T.n_repr (by decide +kernel) (pa_cons (pv 3) pa_nil)) pa_nil)))))
    (pss_one (ps_if (PW.pt (pw_or (pt_cmpR (op_neF hr.units) (pe_kG c__law_read quiet hr (by decide) rfl (pa_cons (pv 2) (pa_cons (pv 0) pa_nil))) (pv 4) (nomark _)) (pw_or1 (pt_cmpR op_ne (pe_callB (call_repr T.sys quiet hr.units) (by rfl) T.n_repr (by decide +kernel) (pa_cons (pv 0) pa_nil)) (pv 1) (nomark _))))) (pss_one (ps_ret pe_bl)) pss_nil))))
    (pss_one (ps_ret pe_bl)))), ?_⟩
    refine ⟨_, rfl, v, d, rfl, th.dv, th.sh, th.dp, th.ln, ?_⟩
    refine ⟨_, rfl, v, d, rfl, th, due_F (K := K) fun x H1 s1 dF => ?_⟩
    refine ⟨(by show 2 ≤ sizeLine; decide), fun t1 ht1 => ?_⟩
    have s2 := s1.trans (new_same (o := .tup [.ref fF, x]) ht1)
    have dF2 := dF.same (new_same (o := .tup [.ref fF, x]) ht1)
    have p1 : (upd H1 t1 (.tup [.ref fF, x])) t1 = some (.tup [.ref fF, x]) := upd_same
    generalize upd H1 t1 (.tup [.ref fF, x]) = H2 at s2 dF2 p1
    refine ⟨_, rfl, v, d, rfl, th.same s2, due_C (K := K) th fun y H3 s3 dC => ?_⟩
    refine ⟨(by show 2 ≤ sizeLine; decide), fun t2 ht2 => ?_⟩
    have e3 : Same H2 (upd H3 t2 (.tup [.ref fC, y])) := s3.trans (new_same ht2)
    have dC4 := dC.same (new_same (o := .tup [.ref fC, y]) ht2)
    have p2 : (upd H3 t2 (.tup [.ref fC, y])) t2 = some (.tup [.ref fC, y]) := upd_same
    generalize upd H3 t2 (.tup [.ref fC, y]) = H4 at e3 dC4 p2
    refine ⟨(by show 2 ≤ sizeLine; decide), fun t3 ht3 => ?_⟩
    have e5 : Same H4 (upd H4 t3 (.tup [.ref t1, .ref t2])) := new_same ht3
    have p3 : (upd H4 t3 (.tup [.ref t1, .ref t2])) t3 = some (.tup [.ref t1, .ref t2]) := upd_same
    generalize upd H4 t3 (.tup [.ref t1, .ref t2]) = H5 at e5 p3
    have s5 : Same H H5 := (s2.trans e3).trans e5
    have i1 : ∃ (fp : Addr) (o : Option PySem.Str) (z : V), H5 t1 = some (.tup [.ref fp, z]) ∧ ((fp = fF ∧ o = resF d) ∨ (fp = fC ∧ o = resC d)) ∧ Due K o z H5 := ⟨fF, _, x, e5 _ _ (e3 _ _ p1), .inl ⟨rfl, rfl⟩, (dF2.same e3).same e5⟩
    have i2 : ∃ (fp : Addr) (o : Option PySem.Str) (z : V), H5 t2 = some (.tup [.ref fp, z]) ∧ ((fp = fF ∧ o = resF d) ∨ (fp = fC ∧ o = resC d)) ∧ Due K o z H5 := ⟨fC, _, y, e5 _ _ p2, .inr ⟨rfl, rfl⟩, dC4.same e5⟩
    have th5 := th.same s5
    clear dF dF2 dC dC4 p1 p2 e3 s1 s2 s3 ht1 ht2 ht3 e5
    refine ⟨t3, rfl, ⟨_, SqT.of p3⟩, for_tup (K := K) (a := t3) (xs := [.ref t1, .ref t2]) (fun i σ' H' => ∃ a b c : Option V, σ' = [some v, some (.str d.shown), a, b, c] ∧ Same H5 H') ⟨none, none, none, rfl, Same.refl _⟩ (fun i σ' H' _ ⟨_, _, _, _, s6⟩ => Same.t s6 (SqT.of p3)) ?_ ?_⟩
    · rintro i it σ' H' hi ⟨a1, b1, c1, rfl, s6⟩
      obtain ⟨t, rfl, fp, o, z, ht, hf, du⟩ : ∃ t : Addr, it = .ref t ∧ ∃ (fp : Addr) (o : Option PySem.Str) (z : V), H5 t = some (.tup [.ref fp, z]) ∧ ((fp = fF ∧ o = resF d) ∨ (fp = fC ∧ o = resC d)) ∧ Due K o z H5 := by
        match i, hi with
        | 0, hi => exact ⟨t1, (Option.some.inj hi).symm, i1⟩
        | 1, hi => exact ⟨t2, (Option.some.inj hi).symm, i2⟩
      refine ⟨t, _, rfl, SqT.of (s6 _ _ ht), rfl, _, _, rfl, _, _, rfl, rfl, ?_⟩
      have du6 := du.same s6
      have th6 := th5.same s6
      refine ⟨fun σ2 H2 => ∃ q : Addr, σ2 = [some v, some (.str d.shown), some (.ref fp), some z, some (.ref q)] ∧ Same H' H2 ∧ H2 q = some (.lst (told o d.shown)), ?_, ?_⟩
      · refine ⟨_, rfl, rfl, _, rfl, ?_⟩
        rcases du6 with ⟨rfl, rfl⟩ | ⟨p, ns, tx, rfl, rfl, big, hq⟩
        · exact ifY (decide_eq_true rfl) ⟨_, rfl, (by show 3 ≤ sizeLine; decide), fun q hq => ⟨q, rfl, new_same hq, upd_same⟩⟩
        · refine ifN (decide_eq_false fun c => by cases c) ⟨_, rfl, p, ns, rfl, big, ?_⟩
          rcases hq with ⟨h1, h2, rfl⟩ | ⟨h1, h2, rfl⟩
          · exact .inl ⟨h1, h2, (by show 2 ≤ sizeLine; decide), fun q hq => ⟨q, rfl, new_same hq, upd_same⟩⟩
          · exact .inr ⟨h1, h2, (by show 2 ≤ sizeLine; decide), fun q hq => ⟨q, rfl, new_same hq, upd_same⟩⟩
      · rintro σ2 H2 ⟨q, rfl, s7, hq⟩
        have th7 := th6.same s7
        refine ⟨_, rfl, _, rfl, fp, v, d, o, rfl, th7, hf, fun H8 q2 s8 hq2 => ?_⟩
        refine ⟨_, rfl, q2, q, _, _, rfl, rfl, SqL.of hq2, SqL.of (s8 _ _ hq), .inr ⟨rfl, told_flat _ _, _, rfl, iteF ?_⟩⟩
        have th8 := th7.same s8
        refine ⟨_, rfl, v, d, rfl, th8.dv, th8.sh, th8.dp, th8.ln, _, rfl, rfl, _, rfl, ifN (by rw [decide_eq_true rfl]; rfl) ?_⟩
        exact ⟨_, _, _, rfl, (s6.trans s7).trans s8⟩
    · rintro σ' H' ⟨a1, b1, c1, rfl, s6⟩
      exact k H' (s5.trans s6)
end
end K90

namespace K90
open PySem L2 SmA SmM SX
section
variable {P : Program} {w : World} {K : PySem.W.Frag} {mg : PySem.Str → Option Value} {base : Heap} {f : Addr}
def BB : Nat → Nat
  | 0 => 0
  | j + 1 => 2 + 3 * BB j
/-- _law_anything(pen, deep), deep = j - 1 -/
def spA (K : PySem.W.Frag) : Nat → Sp
  | 0 => fun _ _ _ _ => False
  | j + 1 => fun vs H Q _ => ∃ (p c : Addr) (n : Nat), vs = [.ref p, .int (j : Int)] ∧ Pen K H p c n ∧ n + BB (j + 1) < 2 ^ 40 ∧ ∀ v d H', Kp p H H' → Pen K H' p c (n + BB (j + 1)) → DV K (nw H H') v d → Dat (j + 1) d → Q v H'
abbrev st__law_anything : Stmt := top 21
theorem sc_any : FnScope ["pen", "deep", "inner", "items", "k"] ["pen", "deep"] (defScope st__law_anything) := ⟨rfl, rfl, rfl, by decide +kernel, rfl, by decide +kernel, by decide +kernel⟩
theorem dvs_snoc {H : Hp} : ∀ {vs : List V} {ds : List PyData} {v : V} {d : PyData}, DVs K H vs ds → DV K H v d → DVs K H (vs ++ [v]) (ds ++ [d])
  | _, _, _, _, .nil, h => .cons h .nil
  | _, _, _, _, .cons a t, h => .cons a (dvs_snoc t h)
def LA : List V := [.non, .bl true, .bl false, .int 0, .int 1, .int (-1), .int 2, .int 200, .int 201, .int (10 ^ (18 : Int).toNat), .int (10 ^ (18 : Int).toNat + 1), .int (10 ^ (30 : Int).toNat), .int (10 ^ (30 : Int).toNat + 1), .int (10 ^ (40 : Int).toNat)]
def LB : List V := [.int (10 ^ (40 : Int).toNat + 1), .int (-(10 ^ (30 : Int).toNat)), .int (-(10 ^ (30 : Int).toNat) - 1), .int (-(10 ^ (40 : Int).toNat)), .int (-(10 ^ (40 : Int).toNat) - 1), .str "", .str "a", .str "1"]
theorem cpw {j : Int} (h : 0 ≤ j ∧ j ≤ 1000000) : CPow 10 j := ⟨h.1, h.2, by decide⟩
theorem LAB_ok : (LA ++ LB).all scalOk = true := by decide +kernel
theorem ok_any0 (a : At K mg "_law_anything" st__law_anything ["pen", "deep"] f) : Df P w K mg base CX0 1 "_law_anything" f (spA K 0) := by
  obtain ⟨fd, F, hm, b⟩ := a.ex
  exact ⟨fd, _, ⟨fun _ _ _ _ z => z.elim, fun _ _ _ _ _ _ _ _ _ _ _ _ _ z => z.elim⟩, hm, F.kp, b⟩
theorem ok_any {g : Addr} {j : Nat} (hj : j ≤ 5) (a : At K mg "_law_anything" st__law_anything ["pen", "deep"] f) (T : Nm K mg base) (c__law_draw : Df P w K mg base CX0 1 "_law_draw" g (spDraw K)) (c__law_anything : Df P w K mg base CX0 (j + 1) "_law_anything" f (spA K j)) :
    Df P w K mg base CX0 (j + 2) "_law_anything" f (spA K (j + 1)) := by
  have nd := sc_any.nd
  refine a.ok sc_any (fun vs H Q E h => ?_) (fun cdv A outer s H vs Q E hr h => ?_)
  · obtain ⟨p, c, n, rfl, _⟩ := h
    rfl
  · obtain ⟨p, c, n, rfl, pen, lim, k⟩ := h
    refine ⟨_, (C8.pss_cut (ps_setLc (i := 2) (own := [("k", 4)]) (g := gName 4) rfl nd rfl rfl (sw_true rfl rfl rfl (by decide +kernel)) (pi_range1 rfl T.n_range (pa_cons (pe_ifExp (pt_cmpR op_gt (pv 1) pe_int (nomark _)) (pe_k c__law_draw hr (by omega) rfl (pa_cons (pv 0) (pa_cons pe_int pa_nil))) pe_int) pa_nil)) (blkOk_by (own := [("k", 4)]) (N := ["pen", "deep", "inner", "items", "k"]) (sc := defScope st__law_anything) (by decide +kernel)) (fun _ _ _ _ _ => pg_name (i := 4) nd rfl (Or.inl rfl)) (fun _ _ _ _ _ => pts_nil) (fun _ _ _ _ _ => (pe_k c__law_anything hr (Nat.le_refl _) rfl (pa_cons (pv 0) (pa_cons (pe_op op_sub (pv 1) pe_int) pa_nil)))))
    (pss_cons (ps_set (i := 3) nd rfl (Or.inl rfl) (pe_lst (pa_cons pe_non (pa_cons pe_bl (pa_cons pe_bl (pa_cons pe_int (pa_cons pe_int (pa_cons (pe_un un_neg pe_int) (pa_cons pe_int (pa_cons pe_int (pa_cons pe_int (pa_cons (pe_op op_pow pe_int pe_int) (pa_cons (pe_op op_add (pe_op op_pow pe_int pe_int) pe_int) (pa_cons (pe_op op_pow pe_int pe_int) (pa_cons (pe_op op_add (pe_op op_pow pe_int pe_int) pe_int) (pa_cons (pe_op op_pow pe_int pe_int) pa_nil))))))))))))))))
    (pss_cons (ps_set (i := 3) nd rfl (Or.inl rfl) (pe_op op_cat (pv 3) (pe_lst (pa_cons (pe_op op_add (pe_op op_pow pe_int pe_int) pe_int) (pa_cons (pe_un un_neg (pe_op op_pow pe_int pe_int)) (pa_cons (pe_op op_sub (pe_un un_neg (pe_op op_pow pe_int pe_int)) pe_int) (pa_cons (pe_un un_neg (pe_op op_pow pe_int pe_int)) (pa_cons (pe_op op_sub (pe_un un_neg (pe_op op_pow pe_int pe_int)) pe_int) (pa_cons pe_str (pa_cons pe_str (pa_cons pe_str pa_nil)))))))))))
    (pss_cons (ps_set (i := 3) nd rfl (Or.inl rfl) (pe_op op_cat (pv 3) (pe_lst (pa_cons (pe_lst pa_nil) (pa_cons pe_dnewK (pa_cons (pe_tup pa_nil) pa_nil))))))
    (pss_cons (ps_set (i := 3) nd rfl (Or.inl rfl) (pe_op op_cat (pv 3) (pe_lst (pa_cons (pe_callTy call_tuple_of (by rfl) T.n_tuple (by decide +kernel) (pa_cons (pv 2) pa_nil)) (pa_cons (pe_callTy call_tuple_of (by rfl) T.n_tuple (by decide +kernel) (pa_cons (pv 2) pa_nil)) (pa_cons (pe_callTy call_list_of (by rfl) T.n_list (by decide +kernel) (pa_cons (pv 2) pa_nil)) (pa_cons (pe_disp (pps_cons pe_str (pe_callTy call_tuple_of (by rfl) T.n_tuple (by decide +kernel) (pa_cons (pv 2) pa_nil)) pps_nil) (by rfl) (by rfl) (fun z => by cases z) (by decide)) pa_nil)))))))
    (pss_one (ps_ret (pe_ix ix_list (pv 3) (pe_k c__law_draw hr (by omega) rfl (pa_cons (pv 0) (pa_cons (pe_callB call_len_seq (by rfl) T.n_len PySem.boot_len (pa_cons (pv 3) pa_nil)) pa_nil))) (fun _ _ => rfl))))))))), ?_⟩
    have hB : BB (j + 1) = 2 + 3 * BB j := rfl
    refine ⟨fun σ' H' => ∃ (D : Addr) (vs : List V) (ds : List PyData), σ' = [some (.ref p), some (.int (j : Int)), some (.ref D), none, none] ∧ Kp p H H' ∧ Pen K H' p c (n + 1 + 3 * BB j) ∧ H' D = some (.lst vs) ∧ DVs K (nw H H') vs ds ∧ (∀ d ∈ ds, Dat j d) ∧ vs.length ≤ 3, ?_, ?_⟩
    · have pH : H p ≠ none := fun z => by
        obtain ⟨kvs, hp⟩ := pen.at
        rw [hp] at z
        cases z
      refine ⟨_, rfl, _, _, rfl, rfl, _, rfl, ite2 (fun z => ?_) (fun z => ?_)⟩
      · have j0 : (0 : Int) < j := of_decide_eq_true z
        refine ⟨_, rfl, p, c, 4, n, rfl, pen, by omega, by decide, small_pow (by decide), fun m H1 m0 m4 k1 pen1 => ?_⟩
        obtain ⟨mn, rfl⟩ := Int.eq_ofNat_of_zero_le m0
        refine ⟨_, rfl, by omega, by omega, fun D hD => ?_⟩
        have g1 : Grow H H1 := k1.grow pen1
        have nDp : D ≠ p := pen1.new_p hD
        have nDc : D ≠ c := pen1.new_c hD
        have g2 : Grow H (upd H1 D (.lst [])) := g1.trans (SmA.Same.grow (new_same hD))
        have pD : (upd H1 D (.lst [])) p ≠ none := fun z => by
          obtain ⟨kvs, hp⟩ := pen1.at
          rw [upd_ne nDp.symm, hp] at z
          cases z
        have DD : (upd H1 D (.lst [])) D ≠ none := fun z => by rw [upd_same] at z; cases z
        refine lc_range (lo := 0) (n := mn) (fun i H2 => ∃ (vs : List V) (ds : List PyData), H2 D = some (.lst vs) ∧ vs.length = i ∧ DVs K (nw (upd H1 D (.lst [])) H2) vs ds ∧ (∀ d ∈ ds, Dat j d) ∧ (∀ b o, b ≠ p → b ≠ D → H1 b = some o → H2 b = some o) ∧ Pen K H2 p c (n + 1 + i * BB j) ∧ Grow (upd H1 D (.lst [])) H2)
          ⟨[], [], upd_same, rfl, .nil, (fun d hd => by cases hd), (fun b o _ n2 e => by rw [upd_ne n2]; exact e), (pen1.same (new_same hD)).le (by omega), Grow.refl _⟩ ?_ ?_
        · rintro i H2 hi ⟨vs, ds, hD2, len, dvs, dat, k2, pen2, gr⟩
          have i4 : i < mn := hi
          cases j with
          | zero => exact absurd j0 (by decide)
          | succ j' =>
            have hB2 : BB (j' + 1) = 2 + 3 * BB j' := rfl
            have lim2 : (i + 1) * BB (j' + 1) ≤ 3 * BB (j' + 1) := Nat.mul_le_mul_right _ (by omega)
            rw [Nat.add_mul, Nat.one_mul] at lim2
            have ej : (((j' + 1 : Nat) : Int) - 1) = (j' : Int) := by omega
            refine ⟨rfl, _, rfl, _, rfl, _, _, rfl, rfl, p, c, n + 1 + i * BB (j' + 1), (by show [V.ref p, V.int (((j' + 1 : Nat) : Int) - 1)] = _; rw [ej]), pen2, by omega, fun v d H3 k3 pen3 dv da => ?_⟩
            have D2 : H2 D ≠ none := fun z => by rw [hD2] at z; cases z
            have g3 : Grow H2 H3 := k3.grow pen3
            refine ⟨vs, k3 D _ nDp hD2, ?_, vs ++ [v], ds ++ [d], upd_same, by rw [List.length_append, len]; rfl, dvs_snoc ?_ ?_, ?_, ?_, ?_, ?_⟩
            · rw [len]
              exact Nat.lt_of_lt_of_le (show i < 100 by omega) (by decide)
            · exact DVs.same ((nw_kp pD k3).trans (nw_put DD)) dvs
            · exact DV.same ((nw_put D2).trans (nw_back gr)) dv
            · intro x hx
              rcases List.mem_append.mp hx with hx | hx
              · exact dat x hx
              · rw [List.mem_singleton.mp hx]; exact da
            · intro b o n1 n2 e
              rw [upd_ne n2]
              exact k3 b o n1 (k2 b o n1 n2 e)
            · exact (pen3.le (n := n + 1 + (i + 1) * BB (j' + 1)) (by rw [Nat.add_mul]; omega)).put nDp nDc
            · intro b hb
              refine gr b (g3 b ?_)
              by_cases e : b = D
              · rw [e, upd_same] at hb; cases hb
              · rw [upd_ne e] at hb; exact hb
        · rintro H2 ⟨vs, ds, hD2, len, dvs, dat, k2, pen2, gr⟩
          have lim2 : mn * BB j ≤ 3 * BB j := Nat.mul_le_mul_right _ (by omega)
          refine ⟨D, vs, ds, rfl, fun b o n1 e => ?_, pen2.le (by omega), hD2, DVs.same (nw_back g2) dvs, dat, by omega⟩
          have e1 := k1 b o n1 e
          exact k2 b o n1 (ne_of_none e1 hD) e1
      · have j0 : ¬ (0 : Int) < j := fun c => z (decide_eq_true c)
        refine ⟨0, rfl, by decide, by decide, fun D hD => lc_range (lo := 0) (n := 0) (fun _ H2 => H2 = upd H D (.lst [])) rfl (fun i _ hi => absurd hi (Nat.not_lt_zero i)) ?_⟩
        rintro H2 rfl
        exact ⟨D, [], [], rfl, Kp.of (new_same hD), (pen.same (new_same hD)).le (by omega), upd_same, .nil, (fun d hd => by cases hd), Nat.zero_le _⟩
    · rintro σ' H' ⟨D, vs, ds, rfl, k1, pen1, hD, dvs, dat, len⟩
      have line : 100 ≤ sizeLine := by decide
      have lenV : vs.length = ds.length := DVs.length dvs
      refine ⟨_, rfl, _, _, rfl, rfl, cpw (by decide), _, _, rfl, rfl, cpw (by decide), _, _, rfl, rfl, _, _, rfl, rfl, cpw (by decide), _, _, rfl, rfl, cpw (by decide), _, _, rfl, rfl, _, _, rfl, rfl, cpw (by decide), (by show 14 ≤ sizeLine; decide), fun l1 hl1 => ?_⟩
      have s1 : Same H' (upd H' l1 (.lst LA)) := new_same hl1
      have i1 : (upd H' l1 (.lst LA)) l1 = some (.lst LA) := upd_same
      refine ⟨_, rfl, _, _, rfl, rfl, cpw (by decide), _, _, rfl, rfl, _, _, rfl, rfl, cpw (by decide), _, rfl, _, _, rfl, rfl, cpw (by decide), _, rfl, _, _, rfl, rfl, _, _, rfl, rfl, cpw (by decide), _, rfl, _, _, rfl, rfl, cpw (by decide), _, rfl, _, _, rfl, rfl, (by show 8 ≤ sizeLine; decide), fun l2 hl2 => ?_⟩
      have s2 : Same (upd H' l1 (.lst LA)) (upd (upd H' l1 (.lst LA)) l2 (.lst LB)) := new_same hl2
      have i2 : (upd (upd H' l1 (.lst LA)) l2 (.lst LB)) l2 = some (.lst LB) := upd_same
      refine ⟨l1, l2, LA, LB, rfl, rfl, s2 _ _ i1, i2, (by show 22 ≤ sizeLine; decide), fun l3 hl3 => ?_⟩
      have s_l3 : Same (upd (upd H' l1 (.lst LA)) l2 (.lst LB)) (upd (upd (upd H' l1 (.lst LA)) l2 (.lst LB)) l3 (.lst (LA ++ LB))) := new_same hl3
      have i_l3 : (upd (upd (upd H' l1 (.lst LA)) l2 (.lst LB)) l3 (.lst (LA ++ LB))) l3 = some (.lst (LA ++ LB)) := upd_same
      refine ⟨_, rfl, Nat.zero_le _, fun a0 ha0 => ?_⟩
      have s_a0 : Same (upd (upd (upd H' l1 (.lst LA)) l2 (.lst LB)) l3 (.lst (LA ++ LB))) (upd (upd (upd (upd H' l1 (.lst LA)) l2 (.lst LB)) l3 (.lst (LA ++ LB))) a0 (.lst [])) := new_same ha0
      have i_a0 : (upd (upd (upd (upd H' l1 (.lst LA)) l2 (.lst LB)) l3 (.lst (LA ++ LB))) a0 (.lst [])) a0 = some (.lst []) := upd_same
      intro d0 hd0
      have s_d0 : Same (upd (upd (upd (upd H' l1 (.lst LA)) l2 (.lst LB)) l3 (.lst (LA ++ LB))) a0 (.lst [])) (upd (upd (upd (upd (upd H' l1 (.lst LA)) l2 (.lst LB)) l3 (.lst (LA ++ LB))) a0 (.lst [])) d0 (.dK [])) := new_same hd0
      have i_d0 : (upd (upd (upd (upd (upd H' l1 (.lst LA)) l2 (.lst LB)) l3 (.lst (LA ++ LB))) a0 (.lst [])) d0 (.dK [])) d0 = some (.dK []) := upd_same
      refine ⟨Nat.zero_le _, fun t0 ht0 => ?_⟩
      have s_t0 : Same (upd (upd (upd (upd (upd H' l1 (.lst LA)) l2 (.lst LB)) l3 (.lst (LA ++ LB))) a0 (.lst [])) d0 (.dK [])) (upd (upd (upd (upd (upd (upd H' l1 (.lst LA)) l2 (.lst LB)) l3 (.lst (LA ++ LB))) a0 (.lst [])) d0 (.dK [])) t0 (.tup [])) := new_same ht0
      have i_t0 : (upd (upd (upd (upd (upd (upd H' l1 (.lst LA)) l2 (.lst LB)) l3 (.lst (LA ++ LB))) a0 (.lst [])) d0 (.dK [])) t0 (.tup [])) t0 = some (.tup []) := upd_same
      refine ⟨(by show 3 ≤ sizeLine; decide), fun l4 hl4 => ?_⟩
      have s_l4 : Same (upd (upd (upd (upd (upd (upd H' l1 (.lst LA)) l2 (.lst LB)) l3 (.lst (LA ++ LB))) a0 (.lst [])) d0 (.dK [])) t0 (.tup [])) (upd (upd (upd (upd (upd (upd (upd H' l1 (.lst LA)) l2 (.lst LB)) l3 (.lst (LA ++ LB))) a0 (.lst [])) d0 (.dK [])) t0 (.tup [])) l4 (.lst [.ref a0, .ref d0, .ref t0])) := new_same hl4
      have i_l4 : (upd (upd (upd (upd (upd (upd (upd H' l1 (.lst LA)) l2 (.lst LB)) l3 (.lst (LA ++ LB))) a0 (.lst [])) d0 (.dK [])) t0 (.tup [])) l4 (.lst [.ref a0, .ref d0, .ref t0])) l4 = some (.lst [.ref a0, .ref d0, .ref t0]) := upd_same
      refine ⟨l3, l4, LA ++ LB, _, rfl, rfl, s_l4 _ _ (s_t0 _ _ (s_d0 _ _ (s_a0 _ _ i_l3))), i_l4, (by show 25 ≤ sizeLine; decide), fun l5 hl5 => ?_⟩
      have s_l5 : Same (upd (upd (upd (upd (upd (upd (upd H' l1 (.lst LA)) l2 (.lst LB)) l3 (.lst (LA ++ LB))) a0 (.lst [])) d0 (.dK [])) t0 (.tup [])) l4 (.lst [.ref a0, .ref d0, .ref t0])) (upd (upd (upd (upd (upd (upd (upd (upd H' l1 (.lst LA)) l2 (.lst LB)) l3 (.lst (LA ++ LB))) a0 (.lst [])) d0 (.dK [])) t0 (.tup [])) l4 (.lst [.ref a0, .ref d0, .ref t0])) l5 (.lst ((LA ++ LB) ++ [.ref a0, .ref d0, .ref t0]))) := new_same hl5
      have i_l5 : (upd (upd (upd (upd (upd (upd (upd (upd H' l1 (.lst LA)) l2 (.lst LB)) l3 (.lst (LA ++ LB))) a0 (.lst [])) d0 (.dK [])) t0 (.tup [])) l4 (.lst [.ref a0, .ref d0, .ref t0])) l5 (.lst ((LA ++ LB) ++ [.ref a0, .ref d0, .ref t0]))) l5 = some (.lst ((LA ++ LB) ++ [.ref a0, .ref d0, .ref t0])) := upd_same
      have u5 : Same H' (upd (upd (upd (upd (upd (upd (upd (upd H' l1 (.lst LA)) l2 (.lst LB)) l3 (.lst (LA ++ LB))) a0 (.lst [])) d0 (.dK [])) t0 (.tup [])) l4 (.lst [.ref a0, .ref d0, .ref t0])) l5 (.lst ((LA ++ LB) ++ [.ref a0, .ref d0, .ref t0]))) := s1.trans (s2.trans (s_l3.trans (s_a0.trans (s_d0.trans (s_t0.trans (s_l4.trans s_l5))))))
      refine ⟨_, rfl, _, rfl, D, vs, rfl, .inl ⟨SqL.of (u5 _ _ hD), fun t1 ht1 => ?_⟩⟩
      have s_t1 : Same (upd (upd (upd (upd (upd (upd (upd (upd H' l1 (.lst LA)) l2 (.lst LB)) l3 (.lst (LA ++ LB))) a0 (.lst [])) d0 (.dK [])) t0 (.tup [])) l4 (.lst [.ref a0, .ref d0, .ref t0])) l5 (.lst ((LA ++ LB) ++ [.ref a0, .ref d0, .ref t0]))) (upd (upd (upd (upd (upd (upd (upd (upd (upd H' l1 (.lst LA)) l2 (.lst LB)) l3 (.lst (LA ++ LB))) a0 (.lst [])) d0 (.dK [])) t0 (.tup [])) l4 (.lst [.ref a0, .ref d0, .ref t0])) l5 (.lst ((LA ++ LB) ++ [.ref a0, .ref d0, .ref t0]))) t1 (.tup vs)) := new_same ht1
      have i_t1 : (upd (upd (upd (upd (upd (upd (upd (upd (upd H' l1 (.lst LA)) l2 (.lst LB)) l3 (.lst (LA ++ LB))) a0 (.lst [])) d0 (.dK [])) t0 (.tup [])) l4 (.lst [.ref a0, .ref d0, .ref t0])) l5 (.lst ((LA ++ LB) ++ [.ref a0, .ref d0, .ref t0]))) t1 (.tup vs)) t1 = some (.tup vs) := upd_same
      refine ⟨_, rfl, D, vs, rfl, .inl ⟨SqL.of (s_t1 _ _ (u5 _ _ hD)), fun t2 ht2 => ?_⟩⟩
      have s_t2 : Same (upd (upd (upd (upd (upd (upd (upd (upd (upd H' l1 (.lst LA)) l2 (.lst LB)) l3 (.lst (LA ++ LB))) a0 (.lst [])) d0 (.dK [])) t0 (.tup [])) l4 (.lst [.ref a0, .ref d0, .ref t0])) l5 (.lst ((LA ++ LB) ++ [.ref a0, .ref d0, .ref t0]))) t1 (.tup vs)) (upd (upd (upd (upd (upd (upd (upd (upd (upd (upd H' l1 (.lst LA)) l2 (.lst LB)) l3 (.lst (LA ++ LB))) a0 (.lst [])) d0 (.dK [])) t0 (.tup [])) l4 (.lst [.ref a0, .ref d0, .ref t0])) l5 (.lst ((LA ++ LB) ++ [.ref a0, .ref d0, .ref t0]))) t1 (.tup vs)) t2 (.tup vs)) := new_same ht2
      have i_t2 : (upd (upd (upd (upd (upd (upd (upd (upd (upd (upd H' l1 (.lst LA)) l2 (.lst LB)) l3 (.lst (LA ++ LB))) a0 (.lst [])) d0 (.dK [])) t0 (.tup [])) l4 (.lst [.ref a0, .ref d0, .ref t0])) l5 (.lst ((LA ++ LB) ++ [.ref a0, .ref d0, .ref t0]))) t1 (.tup vs)) t2 (.tup vs)) t2 = some (.tup vs) := upd_same
      refine ⟨_, rfl, D, vs, rfl, .inl (SqL.of (s_t2 _ _ (s_t1 _ _ (u5 _ _ hD)))), fun a1 ha1 => ?_⟩
      have s_a1 : Same (upd (upd (upd (upd (upd (upd (upd (upd (upd (upd H' l1 (.lst LA)) l2 (.lst LB)) l3 (.lst (LA ++ LB))) a0 (.lst [])) d0 (.dK [])) t0 (.tup [])) l4 (.lst [.ref a0, .ref d0, .ref t0])) l5 (.lst ((LA ++ LB) ++ [.ref a0, .ref d0, .ref t0]))) t1 (.tup vs)) t2 (.tup vs)) (upd (upd (upd (upd (upd (upd (upd (upd (upd (upd (upd H' l1 (.lst LA)) l2 (.lst LB)) l3 (.lst (LA ++ LB))) a0 (.lst [])) d0 (.dK [])) t0 (.tup [])) l4 (.lst [.ref a0, .ref d0, .ref t0])) l5 (.lst ((LA ++ LB) ++ [.ref a0, .ref d0, .ref t0]))) t1 (.tup vs)) t2 (.tup vs)) a1 (.lst vs)) := new_same ha1
      have i_a1 : (upd (upd (upd (upd (upd (upd (upd (upd (upd (upd (upd H' l1 (.lst LA)) l2 (.lst LB)) l3 (.lst (LA ++ LB))) a0 (.lst [])) d0 (.dK [])) t0 (.tup [])) l4 (.lst [.ref a0, .ref d0, .ref t0])) l5 (.lst ((LA ++ LB) ++ [.ref a0, .ref d0, .ref t0]))) t1 (.tup vs)) t2 (.tup vs)) a1 (.lst vs)) a1 = some (.lst vs) := upd_same
      have u6 : Same (upd (upd (upd (upd (upd (upd (upd (upd H' l1 (.lst LA)) l2 (.lst LB)) l3 (.lst (LA ++ LB))) a0 (.lst [])) d0 (.dK [])) t0 (.tup [])) l4 (.lst [.ref a0, .ref d0, .ref t0])) l5 (.lst ((LA ++ LB) ++ [.ref a0, .ref d0, .ref t0]))) (upd (upd (upd (upd (upd (upd (upd (upd (upd (upd (upd H' l1 (.lst LA)) l2 (.lst LB)) l3 (.lst (LA ++ LB))) a0 (.lst [])) d0 (.dK [])) t0 (.tup [])) l4 (.lst [.ref a0, .ref d0, .ref t0])) l5 (.lst ((LA ++ LB) ++ [.ref a0, .ref d0, .ref t0]))) t1 (.tup vs)) t2 (.tup vs)) a1 (.lst vs)) := s_t1.trans (s_t2.trans s_a1)
      intro d1 hd1
      have s_d1 : Same (upd (upd (upd (upd (upd (upd (upd (upd (upd (upd (upd H' l1 (.lst LA)) l2 (.lst LB)) l3 (.lst (LA ++ LB))) a0 (.lst [])) d0 (.dK [])) t0 (.tup [])) l4 (.lst [.ref a0, .ref d0, .ref t0])) l5 (.lst ((LA ++ LB) ++ [.ref a0, .ref d0, .ref t0]))) t1 (.tup vs)) t2 (.tup vs)) a1 (.lst vs)) (upd (upd (upd (upd (upd (upd (upd (upd (upd (upd (upd (upd H' l1 (.lst LA)) l2 (.lst LB)) l3 (.lst (LA ++ LB))) a0 (.lst [])) d0 (.dK [])) t0 (.tup [])) l4 (.lst [.ref a0, .ref d0, .ref t0])) l5 (.lst ((LA ++ LB) ++ [.ref a0, .ref d0, .ref t0]))) t1 (.tup vs)) t2 (.tup vs)) a1 (.lst vs)) d1 (.dK [])) := new_same hd1
      have i_d1 : (upd (upd (upd (upd (upd (upd (upd (upd (upd (upd (upd (upd H' l1 (.lst LA)) l2 (.lst LB)) l3 (.lst (LA ++ LB))) a0 (.lst [])) d0 (.dK [])) t0 (.tup [])) l4 (.lst [.ref a0, .ref d0, .ref t0])) l5 (.lst ((LA ++ LB) ++ [.ref a0, .ref d0, .ref t0]))) t1 (.tup vs)) t2 (.tup vs)) a1 (.lst vs)) d1 (.dK [])) d1 = some (.dK []) := upd_same
      refine ⟨_, rfl, D, vs, rfl, .inl ⟨SqL.of (s_d1 _ _ (u6 _ _ (u5 _ _ hD))), fun t3 ht3 => ?_⟩⟩
      have s_t3 : Same (upd (upd (upd (upd (upd (upd (upd (upd (upd (upd (upd (upd H' l1 (.lst LA)) l2 (.lst LB)) l3 (.lst (LA ++ LB))) a0 (.lst [])) d0 (.dK [])) t0 (.tup [])) l4 (.lst [.ref a0, .ref d0, .ref t0])) l5 (.lst ((LA ++ LB) ++ [.ref a0, .ref d0, .ref t0]))) t1 (.tup vs)) t2 (.tup vs)) a1 (.lst vs)) d1 (.dK [])) (upd (upd (upd (upd (upd (upd (upd (upd (upd (upd (upd (upd (upd H' l1 (.lst LA)) l2 (.lst LB)) l3 (.lst (LA ++ LB))) a0 (.lst [])) d0 (.dK [])) t0 (.tup [])) l4 (.lst [.ref a0, .ref d0, .ref t0])) l5 (.lst ((LA ++ LB) ++ [.ref a0, .ref d0, .ref t0]))) t1 (.tup vs)) t2 (.tup vs)) a1 (.lst vs)) d1 (.dK [])) t3 (.tup vs)) := new_same ht3
      have i_t3 : (upd (upd (upd (upd (upd (upd (upd (upd (upd (upd (upd (upd (upd H' l1 (.lst LA)) l2 (.lst LB)) l3 (.lst (LA ++ LB))) a0 (.lst [])) d0 (.dK [])) t0 (.tup [])) l4 (.lst [.ref a0, .ref d0, .ref t0])) l5 (.lst ((LA ++ LB) ++ [.ref a0, .ref d0, .ref t0]))) t1 (.tup vs)) t2 (.tup vs)) a1 (.lst vs)) d1 (.dK [])) t3 (.tup vs)) t3 = some (.tup vs) := upd_same
      refine ⟨s_t3 _ _ i_d1, [(.inr "a", .ref t3)], rfl, (by show 1 ≤ 15; decide), ?_⟩
      have n31 : t3 ≠ d1 := (ne_of_none i_d1 ht3).symm
      have u7 : Same (upd (upd (upd (upd (upd (upd (upd (upd (upd (upd (upd H' l1 (.lst LA)) l2 (.lst LB)) l3 (.lst (LA ++ LB))) a0 (.lst [])) d0 (.dK [])) t0 (.tup [])) l4 (.lst [.ref a0, .ref d0, .ref t0])) l5 (.lst ((LA ++ LB) ++ [.ref a0, .ref d0, .ref t0]))) t1 (.tup vs)) t2 (.tup vs)) a1 (.lst vs)) (upd (upd (upd (upd (upd (upd (upd (upd (upd (upd (upd (upd (upd (upd H' l1 (.lst LA)) l2 (.lst LB)) l3 (.lst (LA ++ LB))) a0 (.lst [])) d0 (.dK [])) t0 (.tup [])) l4 (.lst [.ref a0, .ref d0, .ref t0])) l5 (.lst ((LA ++ LB) ++ [.ref a0, .ref d0, .ref t0]))) t1 (.tup vs)) t2 (.tup vs)) a1 (.lst vs)) d1 (.dK [])) t3 (.tup vs)) d1 (.dK (mergeK [] [((.inr "a" : Key), V.ref t3)]))) := fun b o eb => by
        have nb : b ≠ d1 := ne_of_none eb hd1
        rw [upd_ne nb]
        exact s_t3 _ _ (s_d1 _ _ eb)
      have i_D : (upd (upd (upd (upd (upd (upd (upd (upd (upd (upd (upd (upd (upd (upd H' l1 (.lst LA)) l2 (.lst LB)) l3 (.lst (LA ++ LB))) a0 (.lst [])) d0 (.dK [])) t0 (.tup [])) l4 (.lst [.ref a0, .ref d0, .ref t0])) l5 (.lst ((LA ++ LB) ++ [.ref a0, .ref d0, .ref t0]))) t1 (.tup vs)) t2 (.tup vs)) a1 (.lst vs)) d1 (.dK [])) t3 (.tup vs)) d1 (.dK (mergeK [] [((.inr "a" : Key), V.ref t3)]))) d1 = some (.dK (mergeK [] [((.inr "a" : Key), V.ref t3)])) := upd_same
      have i_T : (upd (upd (upd (upd (upd (upd (upd (upd (upd (upd (upd (upd (upd (upd H' l1 (.lst LA)) l2 (.lst LB)) l3 (.lst (LA ++ LB))) a0 (.lst [])) d0 (.dK [])) t0 (.tup [])) l4 (.lst [.ref a0, .ref d0, .ref t0])) l5 (.lst ((LA ++ LB) ++ [.ref a0, .ref d0, .ref t0]))) t1 (.tup vs)) t2 (.tup vs)) a1 (.lst vs)) d1 (.dK [])) t3 (.tup vs)) d1 (.dK (mergeK [] [((.inr "a" : Key), V.ref t3)]))) t3 = some (.tup vs) := by rw [upd_ne n31]; exact i_t3
      have u8 : Same H' (upd (upd (upd (upd (upd (upd (upd (upd (upd (upd (upd (upd (upd (upd H' l1 (.lst LA)) l2 (.lst LB)) l3 (.lst (LA ++ LB))) a0 (.lst [])) d0 (.dK [])) t0 (.tup [])) l4 (.lst [.ref a0, .ref d0, .ref t0])) l5 (.lst ((LA ++ LB) ++ [.ref a0, .ref d0, .ref t0]))) t1 (.tup vs)) t2 (.tup vs)) a1 (.lst vs)) d1 (.dK [])) t3 (.tup vs)) d1 (.dK (mergeK [] [((.inr "a" : Key), V.ref t3)]))) := u5.trans (u6.trans u7)
      have i_L : (upd (upd (upd (upd (upd (upd (upd (upd (upd (upd (upd (upd (upd (upd H' l1 (.lst LA)) l2 (.lst LB)) l3 (.lst (LA ++ LB))) a0 (.lst [])) d0 (.dK [])) t0 (.tup [])) l4 (.lst [.ref a0, .ref d0, .ref t0])) l5 (.lst ((LA ++ LB) ++ [.ref a0, .ref d0, .ref t0]))) t1 (.tup vs)) t2 (.tup vs)) a1 (.lst vs)) d1 (.dK [])) t3 (.tup vs)) d1 (.dK (mergeK [] [((.inr "a" : Key), V.ref t3)]))) l5 = some (.lst ((LA ++ LB) ++ [.ref a0, .ref d0, .ref t0])) := u7 _ _ (u6 _ _ i_l5)
      have v_a0 : (upd (upd (upd (upd (upd (upd (upd (upd (upd (upd (upd (upd (upd (upd H' l1 (.lst LA)) l2 (.lst LB)) l3 (.lst (LA ++ LB))) a0 (.lst [])) d0 (.dK [])) t0 (.tup [])) l4 (.lst [.ref a0, .ref d0, .ref t0])) l5 (.lst ((LA ++ LB) ++ [.ref a0, .ref d0, .ref t0]))) t1 (.tup vs)) t2 (.tup vs)) a1 (.lst vs)) d1 (.dK [])) t3 (.tup vs)) d1 (.dK (mergeK [] [((.inr "a" : Key), V.ref t3)]))) a0 = some (.lst []) := u7 _ _ (u6 _ _ (s_l5 _ _ (s_l4 _ _ (s_t0 _ _ (s_d0 _ _ i_a0)))))
      have v_d0 : (upd (upd (upd (upd (upd (upd (upd (upd (upd (upd (upd (upd (upd (upd H' l1 (.lst LA)) l2 (.lst LB)) l3 (.lst (LA ++ LB))) a0 (.lst [])) d0 (.dK [])) t0 (.tup [])) l4 (.lst [.ref a0, .ref d0, .ref t0])) l5 (.lst ((LA ++ LB) ++ [.ref a0, .ref d0, .ref t0]))) t1 (.tup vs)) t2 (.tup vs)) a1 (.lst vs)) d1 (.dK [])) t3 (.tup vs)) d1 (.dK (mergeK [] [((.inr "a" : Key), V.ref t3)]))) d0 = some (.dK []) := u7 _ _ (u6 _ _ (s_l5 _ _ (s_l4 _ _ (s_t0 _ _ i_d0))))
      have v_t0 : (upd (upd (upd (upd (upd (upd (upd (upd (upd (upd (upd (upd (upd (upd H' l1 (.lst LA)) l2 (.lst LB)) l3 (.lst (LA ++ LB))) a0 (.lst [])) d0 (.dK [])) t0 (.tup [])) l4 (.lst [.ref a0, .ref d0, .ref t0])) l5 (.lst ((LA ++ LB) ++ [.ref a0, .ref d0, .ref t0]))) t1 (.tup vs)) t2 (.tup vs)) a1 (.lst vs)) d1 (.dK [])) t3 (.tup vs)) d1 (.dK (mergeK [] [((.inr "a" : Key), V.ref t3)]))) t0 = some (.tup []) := u7 _ _ (u6 _ _ (s_l5 _ _ (s_l4 _ _ i_t0)))
      have v_t1 : (upd (upd (upd (upd (upd (upd (upd (upd (upd (upd (upd (upd (upd (upd H' l1 (.lst LA)) l2 (.lst LB)) l3 (.lst (LA ++ LB))) a0 (.lst [])) d0 (.dK [])) t0 (.tup [])) l4 (.lst [.ref a0, .ref d0, .ref t0])) l5 (.lst ((LA ++ LB) ++ [.ref a0, .ref d0, .ref t0]))) t1 (.tup vs)) t2 (.tup vs)) a1 (.lst vs)) d1 (.dK [])) t3 (.tup vs)) d1 (.dK (mergeK [] [((.inr "a" : Key), V.ref t3)]))) t1 = some (.tup vs) := u7 _ _ (s_a1 _ _ (s_t2 _ _ i_t1))
      have v_t2 : (upd (upd (upd (upd (upd (upd (upd (upd (upd (upd (upd (upd (upd (upd H' l1 (.lst LA)) l2 (.lst LB)) l3 (.lst (LA ++ LB))) a0 (.lst [])) d0 (.dK [])) t0 (.tup [])) l4 (.lst [.ref a0, .ref d0, .ref t0])) l5 (.lst ((LA ++ LB) ++ [.ref a0, .ref d0, .ref t0]))) t1 (.tup vs)) t2 (.tup vs)) a1 (.lst vs)) d1 (.dK [])) t3 (.tup vs)) d1 (.dK (mergeK [] [((.inr "a" : Key), V.ref t3)]))) t2 = some (.tup vs) := u7 _ _ (s_a1 _ _ i_t2)
      have v_a1 : (upd (upd (upd (upd (upd (upd (upd (upd (upd (upd (upd (upd (upd (upd H' l1 (.lst LA)) l2 (.lst LB)) l3 (.lst (LA ++ LB))) a0 (.lst [])) d0 (.dK [])) t0 (.tup [])) l4 (.lst [.ref a0, .ref d0, .ref t0])) l5 (.lst ((LA ++ LB) ++ [.ref a0, .ref d0, .ref t0]))) t1 (.tup vs)) t2 (.tup vs)) a1 (.lst vs)) d1 (.dK [])) t3 (.tup vs)) d1 (.dK (mergeK [] [((.inr "a" : Key), V.ref t3)]))) a1 = some (.lst vs) := u7 _ _ i_a1
      have gH : Grow H H' := k1.grow pen1
      have n_a0 : H a0 = none := gH _ (Same.free (s1.trans (s2.trans s_l3)) ha0)
      have n_d0 : H d0 = none := gH _ (Same.free (s1.trans (s2.trans (s_l3.trans s_a0))) hd0)
      have n_t0 : H t0 = none := gH _ (Same.free (s1.trans (s2.trans (s_l3.trans (s_a0.trans s_d0)))) ht0)
      have n_t1 : H t1 = none := gH _ (Same.free (u5) ht1)
      have n_t2 : H t2 = none := gH _ (Same.free (u5.trans s_t1) ht2)
      have n_a1 : H a1 = none := gH _ (Same.free (u5.trans (s_t1.trans s_t2)) ha1)
      have n_d1 : H d1 = none := gH _ (Same.free (u5.trans u6) hd1)
      have n_t3 : H t3 = none := gH _ (Same.free (u5.trans (u6.trans s_d1)) ht3)
      refine ⟨(by show 4 ≤ sizeLine; decide), fun l6 hl6 => ?_⟩
      refine ⟨l5, l6, (LA ++ LB) ++ [V.ref a0, V.ref d0, V.ref t0], [V.ref t1, V.ref t2, V.ref a1, V.ref d1], rfl, rfl, new_same hl6 _ _ i_L, upd_same, (by show 29 ≤ sizeLine; decide), fun l7 hl7 => ?_⟩
      have u9 : Same (upd (upd (upd (upd (upd (upd (upd (upd (upd (upd (upd (upd (upd (upd H' l1 (.lst LA)) l2 (.lst LB)) l3 (.lst (LA ++ LB))) a0 (.lst [])) d0 (.dK [])) t0 (.tup [])) l4 (.lst [.ref a0, .ref d0, .ref t0])) l5 (.lst ((LA ++ LB) ++ [.ref a0, .ref d0, .ref t0]))) t1 (.tup vs)) t2 (.tup vs)) a1 (.lst vs)) d1 (.dK [])) t3 (.tup vs)) d1 (.dK (mergeK [] [((.inr "a" : Key), V.ref t3)]))) (upd (upd (upd (upd (upd (upd (upd (upd (upd (upd (upd (upd (upd (upd (upd (upd H' l1 (.lst LA)) l2 (.lst LB)) l3 (.lst (LA ++ LB))) a0 (.lst [])) d0 (.dK [])) t0 (.tup [])) l4 (.lst [.ref a0, .ref d0, .ref t0])) l5 (.lst ((LA ++ LB) ++ [.ref a0, .ref d0, .ref t0]))) t1 (.tup vs)) t2 (.tup vs)) a1 (.lst vs)) d1 (.dK [])) t3 (.tup vs)) d1 (.dK (mergeK [] [((.inr "a" : Key), V.ref t3)]))) l6 (.lst [.ref t1, .ref t2, .ref a1, .ref d1])) l7 (.lst (((LA ++ LB) ++ [.ref a0, .ref d0, .ref t0]) ++ [.ref t1, .ref t2, .ref a1, .ref d1]))) := (new_same hl6).trans (new_same hl7)
      have i_7 : (upd (upd (upd (upd (upd (upd (upd (upd (upd (upd (upd (upd (upd (upd (upd (upd H' l1 (.lst LA)) l2 (.lst LB)) l3 (.lst (LA ++ LB))) a0 (.lst [])) d0 (.dK [])) t0 (.tup [])) l4 (.lst [.ref a0, .ref d0, .ref t0])) l5 (.lst ((LA ++ LB) ++ [.ref a0, .ref d0, .ref t0]))) t1 (.tup vs)) t2 (.tup vs)) a1 (.lst vs)) d1 (.dK [])) t3 (.tup vs)) d1 (.dK (mergeK [] [((.inr "a" : Key), V.ref t3)]))) l6 (.lst [.ref t1, .ref t2, .ref a1, .ref d1])) l7 (.lst (((LA ++ LB) ++ [.ref a0, .ref d0, .ref t0]) ++ [.ref t1, .ref t2, .ref a1, .ref d1]))) l7 = some (.lst (((LA ++ LB) ++ [.ref a0, .ref d0, .ref t0]) ++ [.ref t1, .ref t2, .ref a1, .ref d1])) := upd_same
      have pen2 := (pen1.same u8).same u9
      refine ⟨_, rfl, _, rfl, _, rfl, l7, _, rfl, .inl (SqL.of i_7), p, c, _, n + 1 + 3 * BB j, rfl, pen2, by omega, (by show (0 : Int) < 29; decide), small_pow (by show ((29 : Int)).natAbs < 2 ^ 40; decide), fun m Hf m0 m1 kf penf => ?_⟩
      obtain ⟨y, hy, ey⟩ := atI_mem (xs := ((LA ++ LB) ++ [V.ref a0, V.ref d0, V.ref t0]) ++ [V.ref t1, V.ref t2, V.ref a1, V.ref d1]) m0 m1
      refine ⟨l7, _, m, y, rfl, rfl, kf.seq pen2 (SqL.of i_7), ey, ?_⟩
      have obj : ∀ {q : Addr} {o : HO}, H q = none → (upd (upd (upd (upd (upd (upd (upd (upd (upd (upd (upd (upd (upd (upd H' l1 (.lst LA)) l2 (.lst LB)) l3 (.lst (LA ++ LB))) a0 (.lst [])) d0 (.dK [])) t0 (.tup [])) l4 (.lst [.ref a0, .ref d0, .ref t0])) l5 (.lst ((LA ++ LB) ++ [.ref a0, .ref d0, .ref t0]))) t1 (.tup vs)) t2 (.tup vs)) a1 (.lst vs)) d1 (.dK [])) t3 (.tup vs)) d1 (.dK (mergeK [] [((.inr "a" : Key), V.ref t3)]))) q = some o → nw H Hf q = some o := fun {q o} hq hG => by
        rw [nw_of hq]
        exact kf _ _ (fun e => by
          obtain ⟨kvs, hp⟩ := pen.at
          rw [e, hp] at hq
          cases hq) (u9 _ _ hG)
      have pH : H p ≠ none := fun z => by
        obtain ⟨kvs, hp⟩ := pen.at
        rw [hp] at z
        cases z
      have dvf : DVs K (nw H Hf) vs ds := DVs.same (((nw_more u8).trans (nw_more u9)).trans (nw_kp pH kf)) dvs
      have fin : ∀ d, DV K (nw H Hf) y d → Dat (j + 1) d → Q y Hf := fun d h1 h2 => k y d Hf ((k1.trans (Kp.of (u8.trans u9))).trans kf) (penf.le (by omega)) h1 h2
      have l3 : ds.length ≤ 3 := by omega
      rcases List.mem_append.mp hy with hy | hy
      · rcases List.mem_append.mp hy with hy | hy
        · obtain ⟨d, h1, h2⟩ := scal_data (K := K) (List.all_eq_true.mp LAB_ok y hy)
          exact fin d (h1 _) (h2.mono (Nat.zero_le _))
        · simp only [List.mem_cons, List.not_mem_nil, or_false] at hy
          rcases hy with rfl | rfl | rfl
          · exact fin _ (.lst (SqL.of (obj n_a0 v_a0)) .nil) (dat_list (ds := []) (fun d hd => by cases hd) (Nat.zero_le _))
          · exact fin _ (.dct (kvs := []) (ds := []) (.inl (obj n_d0 v_d0)) .nil) (dat_d0.mono (Nat.zero_le _))
          · exact fin _ (.tup (SqT.of (obj n_t0 v_t0)) .nil) (dat_tup (ds := []) (fun d hd => by cases hd) (Nat.zero_le _)).1
      · simp only [List.mem_cons, List.not_mem_nil, or_false] at hy
        rcases hy with rfl | rfl | rfl | rfl
        · exact fin _ (.tup (SqT.of (obj n_t1 v_t1)) dvf) (dat_tup dat l3).1
        · exact fin _ (.tup (SqT.of (obj n_t2 v_t2)) dvf) (dat_tup dat l3).1
        · exact fin _ (.lst (SqL.of (obj n_a1 v_a1)) dvf) (dat_list dat l3)
        · have em : mergeK [] [((.inr "a" : Key), V.ref t3)] = [((.inr "a" : Key), V.ref t3)] := by
            unfold mergeK
            rw [List.foldl_cons, List.foldl_nil]
            exact putK_new _ rfl
          rw [em] at i_D
          exact fin (.dict [(.str "a", .tuple ds)]) (.dct (kvs := [((.inr "a" : Key), V.ref t3)]) (ds := [.tuple ds]) (.inl (obj n_d1 i_D)) (.cons (.tup (SqT.of (obj n_t3 i_T)) dvf) .nil)) (dat_dict dat l3)
end
end K90

namespace K90
open PySem L2 SmA SmM SX
section
variable {P : Program} {w : World} {K : PySem.W.Frag} {mg : PySem.Str → Option Value} {base : Heap} {f : Addr}
/-- _law_bent_text(pen, text) -/
def spBent (K : PySem.W.Frag) : Sp := fun vs H Q _ => ∃ (p c : Addr) (x : PySem.Str) (n : Nat), vs = [.ref p, .str x] ∧ Pen K H p c n ∧ n + 4 < 2 ^ 40 ∧ x.length ≤ 8000 ∧ Lo x ∧ ∀ y H', Kp p H H' → Pen K H' p c (n + 4) → y.length ≤ 3 * x.length + 1010 → Lo y → Q (.str y) H'
def oddA : List PySem.Str := [(PySem.Str.ofString ""), (PySem.Str.ofString "0"), (PySem.Str.ofString "-0"), (PySem.Str.ofString "01"), (PySem.Str.ofString "1"), (PySem.Str.ofString "-1"), (PySem.Str.ofString "+1"), (PySem.Str.ofString "1>2"), (PySem.Str.ofString "0>0"), (PySem.Str.ofString "5: "), (PySem.Str.ofString "0:"), (PySem.Str.ofString "1/1"), (PySem.Str.ofString "a"), (PySem.Str.ofString "ab"), (PySem.Str.ofString "x1"), S (List.replicate (1001 : Int).toNat 49)]
def oddB : List PySem.Str := [S (List.replicate (40 : Int).toNat 57), S (List.replicate (1000 : Int).toNat 57), (PySem.Str.ofString "names"), (PySem.Str.ofString "undo"), (PySem.Str.ofString "1_0"), (PySem.Str.ofString "1_0/7"), (PySem.Str.ofString "2>1_1")]
def odds : List PySem.Str := oddA ++ oddB
theorem odds_len : ∀ o ∈ odds, o.length ≤ 1001 := by
  have h : odds.all (fun o => decide (o.length ≤ 1001)) = true := by decide +kernel
  intro o ho
  exact of_decide_eq_true (List.all_eq_true.mp h o ho)
theorem odds_lo : ∀ o ∈ odds, Lo o := by
  have h : odds.all (fun o => o.cps.toList.all fun c => decide (c < 128)) = true := by decide +kernel
  intro o ho
  exact Lo.of (List.all_eq_true.mp h o ho)
theorem one_S : V.str (PySem.Str.ofString "1") = V.str (S [49]) := by rw [ofS]; rfl
theorem nine_S : V.str (PySem.Str.ofString "9") = V.str (S [57]) := by rw [ofS]; rfl
theorem before_at {ws : List PySem.Str} {k : Int} (h0 : 0 ≤ k) (h : k < (ws.length : Int)) : ∃ v ∈ ws, atI (ws.map V.str) (k - 1) = some (.str v) := by
  by_cases z : k = 0
  · subst z
    have ne : ws ≠ [] := by
      rintro rfl
      simp at h
    obtain ⟨i, v, rfl⟩ : ∃ i v, ws = i ++ [v] := ⟨_, _, (List.dropLast_concat_getLast ne).symm⟩
    refine ⟨v, List.mem_append_right _ (List.mem_singleton.mpr rfl), ?_⟩
    rw [List.map_append, List.map_singleton]
    exact atI_last _ _
  · obtain ⟨m, hm⟩ := Int.eq_ofNat_of_zero_le (show 0 ≤ k - 1 by omega)
    rw [hm]
    have hl : m < ws.length := by omega
    exact ⟨ws[m], List.getElem_mem hl, atI_nat (by rw [List.getElem?_map, List.getElem?_eq_getElem hl]; rfl)⟩
theorem signs_lo : ∀ g ∈ (PySem.Str.ofString "0123456789>:/- azA._\n").cps.toList, g < 128 := by
  have h : (PySem.Str.ofString "0123456789>:/- azA._\n").cps.toList.all (fun c => decide (c < 128)) = true := by decide +kernel
  exact fun g hg => of_decide_eq_true (List.all_eq_true.mp h g hg)
theorem lo_two {ws u1 u2 : List PySem.Str} (h : ∀ w ∈ ws, Lo w) (h1 : ∀ u ∈ u1, u ∈ ws) (h2 : ∀ u ∈ u2, u ∈ ws) : Lo (Txt.join (PySem.Str.ofString " ") (u1 ++ u2)) := Lo.join fun w hw => by
  rcases List.mem_append.mp hw with z | z
  · exact h _ (h1 _ z)
  · exact h _ (h2 _ z)
theorem lo_three {ws u1 u2 : List PySem.Str} {v : PySem.Str} (h : ∀ w ∈ ws, Lo w) (h1 : ∀ u ∈ u1, u ∈ ws) (h2 : ∀ u ∈ u2, u ∈ ws) (hv : Lo v) : Lo (Txt.join (PySem.Str.ofString " ") ((u1 ++ [v]) ++ u2)) := Lo.join fun w hw => by
  rcases List.mem_append.mp hw with z | z
  · rcases List.mem_append.mp z with z | z
    · exact h _ (h1 _ z)
    · rw [List.mem_singleton.mp z]; exact hv
  · exact h _ (h2 _ z)
abbrev st_bent : Stmt := top 24
theorem sc_bent : FnScope ["pen", "text", "way", "at", "words", "k", "odd"] ["pen", "text"] (defScope st_bent) := ⟨rfl, rfl, rfl, by decide +kernel, rfl, by decide +kernel, by decide +kernel⟩
theorem ok_bent {g1 g2' : Addr} (a : At K mg "_law_bent_text" st_bent ["pen", "text"] f) (T : Nm K mg base) (c__law_draw : Df P w K mg base CX0 1 "_law_draw" g1 (spDraw K)) (c__law_pick : Df P w K mg base CX0 2 "_law_pick" g2' (spPick K)) (c_pickS : Df P w K mg base CX0 2 "_law_pick" g2' (spPickS K)) :
    Df P w K mg base CX0 3 "_law_bent_text" f (spBent K) := by
  have nd := sc_bent.nd
  refine a.ok sc_bent (fun vs H Q E h => ?_) (fun cdv A outer s H vs Q E hr h => ?_)
  · obtain ⟨p, c, x, n, rfl, _⟩ := h
    rfl
  · obtain ⟨p, c, x, n, rfl, pen, lim, lx, lox, k⟩ := h
    refine ⟨_, (pss_cons (ps_par3 (i := 2) (j := 3) (l := 4) (by rfl) nd rfl rfl rfl (by decide) (by decide) (by decide) rfl rfl rfl (pa_cons (pe_k c__law_draw hr (by decide) rfl (pa_cons (pv 0) (pa_cons pe_int pa_nil))) (pa_cons (pe_k c__law_draw hr (by decide) rfl (pa_cons (pv 0) (pa_cons (pe_op op_add (pe_callB call_len_str (by rfl) T.n_len PySem.boot_len (pa_cons (pv 1) pa_nil)) pe_int) pa_nil))) (pa_cons (pe_split (pv 1) pe_str) pa_nil))) (by rfl))
    (pss_cons (ps_set (i := 5) nd rfl (Or.inl rfl) (pe_k c__law_draw hr (by decide) rfl (pa_cons (pv 0) (pa_cons (pe_callB call_len_seq (by rfl) T.n_len PySem.boot_len (pa_cons (pv 4) pa_nil)) pa_nil))))
    (pss_cons (ps_set (i := 6) nd rfl (Or.inl rfl) (pe_lst (pa_cons pe_str (pa_cons pe_str (pa_cons pe_str (pa_cons pe_str (pa_cons pe_str (pa_cons pe_str (pa_cons pe_str (pa_cons pe_str (pa_cons pe_str (pa_cons pe_str (pa_cons pe_str (pa_cons pe_str (pa_cons pe_str (pa_cons pe_str (pa_cons pe_str (pa_cons (pe_op op_mulS pe_str pe_int) pa_nil))))))))))))))))))
    (pss_cons (ps_set (i := 6) nd rfl (Or.inl rfl) (pe_op op_cat (pv 6) (pe_lst (pa_cons (pe_op op_mulS pe_str pe_int) (pa_cons (pe_op op_mulS pe_str pe_int) (pa_cons pe_str (pa_cons pe_str (pa_cons pe_str (pa_cons pe_str (pa_cons pe_str pa_nil))))))))))
    (pss_cons (ps_if (pt_cmpR op_eq (pv 2) pe_int (nomark _)) (pss_one (ps_ret (pe_op op_add_str (pe_op op_add_str (pe_slice C8.sl_txt (pv 1) po_none (po_some (pv 3))) (pe_k c_pickS hr (by decide) rfl (pa_cons (pv 0) (pa_cons pe_str pa_nil)))) (pe_slice C8.sl_txt (pv 1) (po_some (pv 3)) po_none)))) pss_nil)
    (pss_cons (ps_if (pt_cmpR op_eq (pv 2) pe_int (nomark _)) (pss_one (ps_ret (pe_op op_add_str (pe_slice C8.sl_txt (pv 1) po_none (po_some (pv 3))) (pe_slice C8.sl_txt (pv 1) (po_some (pe_op op_add (pv 3) pe_int)) po_none)))) pss_nil)
    (pss_cons (ps_if (pt_cmpR op_eq (pv 2) pe_int (nomark _)) (pss_one (ps_ret (pe_op op_add_str (pe_slice C8.sl_txt (pv 1) po_none (po_some (pv 3))) (pe_slice C8.sl_txt (pv 1) (po_some (pe_op op_sub (pv 3) pe_int)) po_none)))) pss_nil)
    (pss_cons (ps_if (pt_cmpR op_eq (pv 2) pe_int (nomark _)) (pss_one (ps_ret (pe_join pe_str (pe_op op_cat (pe_slice sl_list (pv 4) po_none (po_some (pv 5))) (pe_slice sl_list (pv 4) (po_some (pe_op op_add (pv 5) pe_int)) po_none))))) pss_nil)
    (pss_cons (ps_if (pt_cmpR op_eq (pv 2) pe_int (nomark _)) (pss_one (ps_ret (pe_join pe_str (pe_op op_cat (pe_slice sl_list (pv 4) po_none (po_some (pe_op op_add (pv 5) pe_int))) (pe_slice sl_list (pv 4) (po_some (pv 5)) po_none))))) pss_nil)
    (pss_cons (ps_if (pt_cmpR op_eq (pv 2) pe_int (nomark _)) (pss_one (ps_ret (pe_join pe_str (pe_op op_cat (pe_op op_cat (pe_slice sl_list (pv 4) po_none (po_some (pv 5))) (pe_lst (pa_cons (pe_ix ix_list (pv 4) (pe_op op_sub (pv 5) pe_int) (fun _ _ => rfl)) pa_nil))) (pe_slice sl_list (pv 4) (po_some (pe_op op_add (pv 5) pe_int)) po_none))))) pss_nil)
    (pss_one (ps_ret (pe_join pe_str (pe_op op_cat (pe_op op_cat (pe_slice sl_list (pv 4) po_none (po_some (pv 5))) (pe_lst (pa_cons (pe_k c__law_pick hr (by decide) rfl (pa_cons (pv 0) (pa_cons (pv 6) pa_nil))) pa_nil))) (pe_slice sl_list (pv 4) (po_some (pe_op op_sub (pe_op op_add (pv 5) (pv 2)) pe_int)) po_none))))))))))))))), ?_⟩
    have big : 20000 ≤ sizeLine := by decide
    refine ⟨_, rfl, p, c, 8, n, rfl, pen, by omega, (by decide), small_pow (by decide), fun way H1 w0 w1 k1 pen1 => ?_⟩
    refine ⟨_, rfl, _, rfl, x, rfl, by omega, _, _, rfl, rfl, p, c, _, n + 1, rfl, pen1, by omega, (by omega), small_pow (by show (((x.length : Nat) : Int) + 1).natAbs < 2 ^ 40; omega), fun at_ H2 a0 a1 k2 pen2 => ?_⟩
    refine ⟨_, rfl, ⟨_, rfl⟩, x, _, rfl, rfl, (by decide +kernel), by omega, fun t ht => ?_⟩
    have ew : Txt.split x (PySem.Str.ofString " ") = (TL.spl [32] 0 [] x.cps.toList).map S := by
      rw [space_S, ← split_S (by decide) space_all, S_tl]
    rw [ew]
    have tw := tot_words x.cps.toList
    rw [show x.cps.toList.length = x.length from Array.length_toList] at tw
    have wne : 0 < ((TL.spl [32] 0 [] x.cps.toList).map S).length := by
      rw [List.length_map]
      exact List.length_pos_iff.mpr (spl_ne 32 _)
    have wlo : ∀ w ∈ (TL.spl [32] 0 [] x.cps.toList).map S, Lo w := fun w hw => by
      obtain ⟨q, hq, rfl⟩ := List.mem_map.mp hw
      exact lo_S fun c hc => lox c (spl_part_mem hq hc)
    generalize (TL.spl [32] 0 [] x.cps.toList).map S = ws at tw wne wlo
    have wl : ws.length ≤ x.length + 1 := by
      unfold tot at tw
      omega
    refine ⟨_, _, _, rfl, ?_⟩
    have s3 : Same H2 (upd H2 t (.lst (ws.map V.str))) := new_same ht
    have i3 : (upd H2 t (.lst (ws.map V.str))) t = some (.lst (ws.map V.str)) := upd_same
    have ntp : t ≠ p := pen2.new_p ht
    have k3 := (k1.trans k2).trans (Kp.of s3)
    have pen3 := pen2.same s3
    generalize upd H2 t (.lst (ws.map V.str)) = H3 at s3 i3 k3 pen3
    refine ⟨_, rfl, _, rfl, t, _, rfl, .inl (SqL.of i3), p, c, _, n + 2, rfl, pen3, by omega, ?_, ?_, fun kk H4 q0 q1 k4 pen4 => ?_⟩
    · rw [List.length_map]; omega
    · rw [List.length_map]; exact len_pow (by omega)
    rw [List.length_map] at q1
    have i4 : H4 t = some (.lst (ws.map V.str)) := k4 _ _ ntp i3
    have k5 := k3.trans k4
    clear i3 s3 k4 k3 pen3 pen2 k2 k1 pen1
    refine ⟨49, 1001, one_S, rfl, (by decide), (by decide), (by show 16 ≤ sizeLine; decide), fun l1 hl1 => ?_⟩
    refine ⟨_, rfl, 57, 40, nine_S, rfl, (by decide), (by decide), 57, 1000, nine_S, rfl, (by decide), (by decide), (by show 7 ≤ sizeLine; decide), fun l2 hl2 => ?_⟩
    refine ⟨l1, l2, _, _, rfl, rfl, new_same hl2 _ _ upd_same, upd_same, (by show 23 ≤ sizeLine; decide), fun l3 hl3 => ?_⟩
    have s5 : Same H4 (upd (upd (upd H4 l1 (.lst (oddA.map V.str))) l2 (.lst (oddB.map V.str))) l3 (.lst (oddA.map V.str ++ oddB.map V.str))) := (new_same hl1).trans ((new_same hl2).trans (new_same hl3))
    have o5 : (upd (upd (upd H4 l1 (.lst (oddA.map V.str))) l2 (.lst (oddB.map V.str))) l3 (.lst (oddA.map V.str ++ oddB.map V.str))) l3 = some (.lst (oddA.map V.str ++ oddB.map V.str)) := upd_same
    have i5 := s5 _ _ i4
    have pen5 := pen4.same s5
    have k6 := k5.trans (Kp.of s5)
    have nl3 : l3 ≠ p := (new_same hl2 |> fun z => (pen4.same ((new_same hl1).trans z)).new_p hl3)
    have eo : oddA.map V.str ++ oddB.map V.str = odds.map V.str := (List.map_append ..).symm
    have at_len : (Txt.slice x none (some at_)).length ≤ x.length := slice_le _ _ _
    have fin : ∀ y H', Kp p (upd (upd (upd H4 l1 (.lst (oddA.map V.str))) l2 (.lst (oddB.map V.str))) l3 (.lst (oddA.map V.str ++ oddB.map V.str))) H' → Pen K H' p c (n + 4) → y.length ≤ 3 * x.length + 1010 → Lo y → Q (.str y) H' := fun y H' a b d => k y H' (k6.trans a) b d
    have sp1 : (PySem.Str.ofString " ").length = 1 := by decide +kernel
    refine ⟨_, rfl, rfl, _, rfl, ite2 (fun _ => ?_) (fun _ => ?_)⟩
    · refine ⟨_, rfl, _, rfl, _, rfl, _, rfl, by omega, _, rfl, p, c, _, n + 3, rfl, pen5, by omega, (by decide +kernel), (by decide +kernel), fun g hg H6 k7 pen6 => ?_⟩
      have l1' := slice_le x none (some at_)
      have l2' := slice_le x (some at_) none
      refine ⟨_, _, rfl, rfl, ?_, _, rfl, _, rfl, _, rfl, _, rfl, by omega, _, _, rfl, rfl, ?_, fin _ _ k7 pen6 ?_ (((lox.slice _ _).cat (lo_S fun q hq => by rw [List.mem_singleton.mp hq]; exact signs_lo g hg)).cat (lox.slice _ _))⟩
      · show _ + 1 ≤ _
        omega
      · rw [str_cat_len]
        show _ + 1 + _ ≤ _
        omega
      · rw [str_cat_len, str_cat_len]
        show _ + 1 + _ ≤ _
        omega
    refine ⟨_, rfl, rfl, _, rfl, ite2 (fun _ => ?_) (fun _ => ?_)⟩
    · have l1' := slice_le x none (some at_)
      have l2' := slice_le x (some (at_ + 1)) none
      refine ⟨_, rfl, _, rfl, _, rfl, _, rfl, by omega, _, rfl, _, rfl, _, _, rfl, rfl, _, rfl, _, rfl, by omega, _, _, rfl, rfl, by omega, fin _ _ (Kp.refl p _) (pen5.le (by omega)) ?_ ((lox.slice _ _).cat (lox.slice _ _))⟩
      rw [str_cat_len]
      omega
    refine ⟨_, rfl, rfl, _, rfl, ite2 (fun _ => ?_) (fun _ => ?_)⟩
    · have l1' := slice_le x none (some at_)
      have l2' := slice_le x (some (at_ - 1)) none
      refine ⟨_, rfl, _, rfl, _, rfl, _, rfl, by omega, _, rfl, _, rfl, _, _, rfl, rfl, _, rfl, _, rfl, by omega, _, _, rfl, rfl, by omega, fin _ _ (Kp.refl p _) (pen5.le (by omega)) ?_ ((lox.slice _ _).cat (lox.slice _ _))⟩
      rw [str_cat_len]
      omega
    refine ⟨_, rfl, rfl, _, rfl, ite2 (fun _ => ?_) (fun _ => ?_)⟩
    · obtain ⟨u1, e1, b1, c1, m1⟩ := cut_strs ws none (some kk)
      obtain ⟨u2, e2, b2, c2, m2⟩ := cut_strs ws (some (kk + 1)) none
      have len1 : (cutV (ws.map V.str) none (some kk)).length ≤ 8001 := by rw [e1, List.length_map]; omega
      have len2 : (cutV (ws.map V.str) (some (kk + 1)) none).length ≤ 8001 := by rw [e2, List.length_map]; omega
      have tt := tot_app u1 u2
      have jj := join_tot (u1 ++ u2)
      refine ⟨⟨_, rfl⟩, _, rfl, _, rfl, _, rfl, t, _, rfl, SqL.of i5, fun q1 hq1 => ?_⟩
      refine ⟨_, rfl, _, rfl, _, _, rfl, rfl, _, rfl, t, _, rfl, SqL.of (new_same hq1 _ _ i5), fun q2 hq2 => ?_⟩
      refine ⟨q1, q2, (cutV (ws.map V.str) none (some kk)), (cutV (ws.map V.str) (some (kk + 1)) none), rfl, rfl, new_same hq2 _ _ upd_same, upd_same, by omega, fun q3 hq3 => ?_⟩
      refine ⟨_, q3, u1 ++ u2, rfl, rfl, .inl (SqL.of (by rw [upd_same, e1, e2, ← List.map_append])), ?_, ?_⟩
      · rw [sp1]
        unfold tot at tt b1 b2 tw
        omega
      · exact fin _ _ (Kp.of ((new_same hq1).trans ((new_same hq2).trans (new_same hq3)))) ((pen5.same ((new_same hq1).trans ((new_same hq2).trans (new_same hq3)))).le (by omega)) (by omega) (lo_two wlo m1 m2)
    refine ⟨_, rfl, rfl, _, rfl, ite2 (fun _ => ?_) (fun _ => ?_)⟩
    · obtain ⟨u1, e1, b1, c1, m1⟩ := cut_strs ws none (some (kk + 1))
      obtain ⟨u2, e2, b2, c2, m2⟩ := cut_strs ws (some kk) none
      have len1 : (cutV (ws.map V.str) none (some (kk + 1))).length ≤ 8001 := by rw [e1, List.length_map]; omega
      have len2 : (cutV (ws.map V.str) (some kk) none).length ≤ 8001 := by rw [e2, List.length_map]; omega
      have tt := tot_app u1 u2
      have jj := join_tot (u1 ++ u2)
      refine ⟨⟨_, rfl⟩, _, rfl, _, rfl, _, _, rfl, rfl, _, rfl, t, _, rfl, SqL.of i5, fun q1 hq1 => ?_⟩
      refine ⟨_, rfl, _, rfl, _, rfl, t, _, rfl, SqL.of (new_same hq1 _ _ i5), fun q2 hq2 => ?_⟩
      refine ⟨q1, q2, (cutV (ws.map V.str) none (some (kk + 1))), (cutV (ws.map V.str) (some kk) none), rfl, rfl, new_same hq2 _ _ upd_same, upd_same, by omega, fun q3 hq3 => ?_⟩
      refine ⟨_, q3, u1 ++ u2, rfl, rfl, .inl (SqL.of (by rw [upd_same, e1, e2, ← List.map_append])), ?_, ?_⟩
      · rw [sp1]
        unfold tot at tt b1 b2 tw
        omega
      · exact fin _ _ (Kp.of ((new_same hq1).trans ((new_same hq2).trans (new_same hq3)))) ((pen5.same ((new_same hq1).trans ((new_same hq2).trans (new_same hq3)))).le (by omega)) (by omega) (lo_two wlo m1 m2)
    refine ⟨_, rfl, rfl, _, rfl, ite2 (fun _ => ?_) (fun _ => ?_)⟩
    · obtain ⟨u1, e1, b1, c1, m1⟩ := cut_strs ws none (some kk)
      obtain ⟨u2, e2, b2, c2, m2⟩ := cut_strs ws (some (kk + 1)) none
      obtain ⟨wv, hwv, ewv⟩ := before_at q0 q1
      have len1 : (cutV (ws.map V.str) none (some kk)).length ≤ 8001 := by rw [e1, List.length_map]; omega
      have len2 : (cutV (ws.map V.str) (some (kk + 1)) none).length ≤ 8001 := by rw [e2, List.length_map]; omega
      have lw := tot_mem hwv
      have tt := tot_app (u1 ++ [wv]) u2
      have tt2 := tot_app u1 [wv]
      have tt3 := tot_one wv
      have jj := join_tot ((u1 ++ [wv]) ++ u2)
      refine ⟨⟨_, rfl⟩, _, rfl, _, rfl, _, rfl, t, _, rfl, SqL.of i5, fun q1 hq1 => ?_⟩
      refine ⟨_, rfl, _, rfl, _, _, rfl, rfl, t, _, _, _, rfl, rfl, SqL.of (new_same hq1 _ _ i5), ewv, (by show 1 ≤ sizeLine; decide), fun q2 hq2 => ?_⟩
      refine ⟨q1, q2, (cutV (ws.map V.str) none (some kk)), [V.str wv], rfl, rfl, new_same hq2 _ _ upd_same, upd_same, (by show _ + 1 ≤ _; omega), fun q3 hq3 => ?_⟩
      refine ⟨_, rfl, _, rfl, _, _, rfl, rfl, _, rfl, t, _, rfl, SqL.of (new_same hq3 _ _ (new_same hq2 _ _ (new_same hq1 _ _ i5))), fun q4 hq4 => ?_⟩
      refine ⟨q3, q4, (cutV (ws.map V.str) none (some kk)) ++ [V.str wv], (cutV (ws.map V.str) (some (kk + 1)) none), rfl, rfl, new_same hq4 _ _ upd_same, upd_same, (by rw [List.length_append]; show _ + 1 + _ ≤ _; omega), fun q5 hq5 => ?_⟩
      refine ⟨_, q5, (u1 ++ [wv]) ++ u2, rfl, rfl, .inl (SqL.of (by rw [upd_same, e1, e2, List.map_append, List.map_append]; rfl)), ?_, ?_⟩
      · rw [sp1]
        unfold tot at tt tt2 tt3 b1 b2 tw lw
        omega
      · exact fin _ _ (Kp.of ((new_same hq1).trans ((new_same hq2).trans ((new_same hq3).trans ((new_same hq4).trans (new_same hq5)))))) ((pen5.same ((new_same hq1).trans ((new_same hq2).trans ((new_same hq3).trans ((new_same hq4).trans (new_same hq5)))))).le (by omega)) (by omega) (lo_three wlo m1 m2 (wlo _ hwv))
    obtain ⟨u1, e1, b1, c1, m1⟩ := cut_strs ws none (some kk)
    obtain ⟨u2, e2, b2, c2, m2⟩ := cut_strs ws (some (kk + way - 6)) none
    have len1 : (cutV (ws.map V.str) none (some kk)).length ≤ 8001 := by rw [e1, List.length_map]; omega
    have len2 : (cutV (ws.map V.str) (some (kk + way - 6)) none).length ≤ 8001 := by rw [e2, List.length_map]; omega
    refine ⟨⟨_, rfl⟩, _, rfl, _, rfl, _, rfl, t, _, rfl, SqL.of i5, fun q1 hq1 => ?_⟩
    have sq1 : Same (upd (upd (upd H4 l1 (.lst (oddA.map V.str))) l2 (.lst (oddB.map V.str))) l3 (.lst (oddA.map V.str ++ oddB.map V.str))) (upd (upd (upd (upd H4 l1 (.lst (oddA.map V.str))) l2 (.lst (oddB.map V.str))) l3 (.lst (oddA.map V.str ++ oddB.map V.str))) q1 (.lst (cutV (ws.map V.str) none (some kk)))) := new_same hq1
    have iq1 : (upd (upd (upd (upd H4 l1 (.lst (oddA.map V.str))) l2 (.lst (oddB.map V.str))) l3 (.lst (oddA.map V.str ++ oddB.map V.str))) q1 (.lst (cutV (ws.map V.str) none (some kk)))) q1 = some (.lst (cutV (ws.map V.str) none (some kk))) := upd_same
    have penq := pen5.same sq1
    have nq1 : q1 ≠ p := pen5.new_p hq1
    refine ⟨_, rfl, _, rfl, p, c, l3, oddA.map V.str ++ oddB.map V.str, n + 3, rfl, penq, by omega, SqL.of (sq1 _ _ o5), (by rw [eo]; exact List.cons_ne_nil _ _), (by show 23 ≤ sizeLine; decide), fun v hv H6 k7 pen6 => ?_⟩
    rw [eo] at hv
    obtain ⟨wv, hwv, rfl⟩ := List.mem_map.mp hv
    have lw := odds_len wv hwv
    have tt := tot_app (u1 ++ [wv]) u2
    have tt2 := tot_app u1 [wv]
    have tt3 := tot_one wv
    have jj := join_tot ((u1 ++ [wv]) ++ u2)
    have j1 := k7 _ _ nq1 iq1
    have jt := k7 _ _ ntp (sq1 _ _ i5)
    refine ⟨(by show 1 ≤ sizeLine; decide), fun q2 hq2 => ?_⟩
    refine ⟨q1, q2, (cutV (ws.map V.str) none (some kk)), [V.str wv], rfl, rfl, new_same hq2 _ _ j1, upd_same, (by show _ + 1 ≤ _; omega), fun q3 hq3 => ?_⟩
    refine ⟨_, rfl, _, rfl, _, rfl, _, _, rfl, rfl, _, _, rfl, rfl, _, rfl, t, _, rfl, SqL.of (new_same hq3 _ _ (new_same hq2 _ _ jt)), fun q4 hq4 => ?_⟩
    refine ⟨q3, q4, (cutV (ws.map V.str) none (some kk)) ++ [V.str wv], (cutV (ws.map V.str) (some (kk + way - 6)) none), rfl, rfl, new_same hq4 _ _ upd_same, upd_same, (by rw [List.length_append]; show _ + 1 + _ ≤ _; omega), fun q5 hq5 => ?_⟩
    refine ⟨_, q5, (u1 ++ [wv]) ++ u2, rfl, rfl, .inl (SqL.of (by rw [upd_same, e1, e2, List.map_append, List.map_append]; rfl)), ?_, ?_⟩
    · rw [sp1]
      unfold tot at tt tt2 tt3 b1 b2 tw
      omega
    · exact fin _ _ (((Kp.of sq1).trans k7).trans (Kp.of ((new_same hq2).trans ((new_same hq3).trans ((new_same hq4).trans (new_same hq5)))))) (pen6.same ((new_same hq2).trans ((new_same hq3).trans ((new_same hq4).trans (new_same hq5))))) (by omega) (lo_three wlo m1 m2 (odds_lo _ hwv))
end
end K90

namespace K90
open PySem L2 SmA SmM SX
section
variable {P : Program} {w : World} {K : PySem.W.Frag} {mg : PySem.Str → Option Value} {base : Heap} {f : Addr}
/-- what stands still (B), the pen that draws on -/
structure Fix (K : PySem.W.Frag) (p c : Addr) (n : Nat) (B H : Hp) : Prop where
  bp : B p = none
  sm : Same B H
  pen : Pen K H p c n
theorem Fix.kp {p c : Addr} {n m : Nat} {B H H' : Hp} (h : Fix K p c n B H) (k : Kp p H H') (pen : Pen K H' p c m) : Fix K p c m B H' :=
  ⟨h.bp, fun b o e => k b o (fun z => by rw [z, h.bp] at e; cases e) (h.sm b o e), pen⟩
theorem Fix.same {p c : Addr} {n : Nat} {B H H' : Hp} (h : Fix K p c n B H) (s : Same H H') : Fix K p c n B H' := ⟨h.bp, h.sm.trans s, h.pen.same s⟩
theorem Fix.le {p c : Addr} {n m : Nat} {B H : Hp} (h : Fix K p c n B H) (e : n ≤ m) : Fix K p c m B H := ⟨h.bp, h.sm, h.pen.le e⟩
theorem Fix.bq {p c q : Addr} {n : Nat} {B H : Hp} (h : Fix K p c n B H) (hq : H q = none) : B q = none := h.sm.free hq
theorem Fix.add {p c q : Addr} {n : Nat} {B H : Hp} {o : HO} (h : Fix K p c n B H) (hq : H q = none) : Fix K p c n (upd B q o) (upd H q o) := by
  refine ⟨?_, fun b u e => ?_, h.pen.same (new_same hq)⟩
  · rw [upd_ne (h.pen.new_p hq).symm]
    exact h.bp
  · by_cases z : b = q
    · subst z
      rw [upd_same] at e ⊢
      exact e
    · rw [upd_ne z] at e ⊢
      exact h.sm b u e
/-- an object that is not among what stands still may be written -/
theorem Fix.put {p c q : Addr} {n : Nat} {B H : Hp} {o : HO} (h : Fix K p c n B H) (hq : B q = none) (np : q ≠ p) (nc : q ≠ c) : Fix K p c n B (upd H q o) :=
  ⟨h.bp, fun b u e => by rw [upd_ne (fun z => by rw [z, hq] at e; cases e)]; exact h.sm b u e, h.pen.put np nc⟩
theorem Fix.own {p c q : Addr} {n : Nat} {B H : Hp} {o : HO} (h : Fix K p c n B H) (np : q ≠ p) (hq : H q = some o) : Fix K p c n (upd B q o) H := by
  refine ⟨by rw [upd_ne np.symm]; exact h.bp, fun b u e => ?_, h.pen⟩
  by_cases z : b = q
  · subst z
    rw [upd_same] at e
    rw [hq]
    exact e
  · rw [upd_ne z] at e
    exact h.sm b u e
def B0 : Hp := fun _ => none
theorem Fix.ground {p c : Addr} {n m : Nat} {B H : Hp} (h : Fix K p c n B H) (e : n ≤ m) : Fix K p c m B0 H := ⟨rfl, (fun b o z => nomatch (show (none : Option HO) = some o from z)), h.pen.le e⟩
def P2 (B : Hp) (t : Addr) (v w : Int) : Prop := B t = some (.tup [.int v, .int (1 + w)]) ∧ v.natAbs < 10 ^ 31 ∧ 0 ≤ w ∧ w < 10 ^ 31
def P3 (B : Hp) (t : Addr) (x y : Int) : Prop := B t = some (.tup [.int x, .int y]) ∧ x.natAbs < 10 ^ 32 ∧ y.natAbs < 10 ^ 32 ∧ fracOf (decL x ++ ([47] ++ decL y)) = some (x, y)
def P5 (B : Hp) (t : Addr) (ns : List Int) : Prop := B t = some (.lst (ns.map V.int)) ∧ ns ≠ [] ∧ ns.length ≤ 8 ∧ ∀ n ∈ ns, n.natAbs < 10 ^ 60
def fl (x y : Int) : List Nat := decL x ++ ([47] ++ decL y)
def cl (ns : List Int) : List Nat := TL.joinL [32] (ns.map decL)
def P6 (B : Hp) (t : Addr) (x y : Int) (ns : List Int) : Prop := B t = some (.lst [.str (S (fl x y)), .str (S (cl ns))])
theorem P2.same {B B' : Hp} {t : Addr} {v w : Int} (h : P2 B t v w) (s : Same B B') : P2 B' t v w := ⟨s _ _ h.1, h.2⟩
theorem P3.same {B B' : Hp} {t : Addr} {v w : Int} (h : P3 B t v w) (s : Same B B') : P3 B' t v w := ⟨s _ _ h.1, h.2⟩
theorem P5.same {B B' : Hp} {t : Addr} {ns : List Int} (h : P5 B t ns) (s : Same B B') : P5 B' t ns := ⟨s _ _ h.1, h.2⟩
theorem P6.same {B B' : Hp} {t : Addr} {x y : Int} {ns : List Int} (h : P6 B t x y ns) (s : Same B B') : P6 B' t x y ns := s _ _ h
theorem div_abs {a g : Int} (hg : 0 < g) (hd : g ∣ a) : (a / g).natAbs ≤ a.natAbs := by
  have e := Int.ediv_mul_cancel hd
  have e2 := congrArg Int.natAbs e
  rw [Int.natAbs_mul] at e2
  have g1 : 1 ≤ g.natAbs := by omega
  calc (a / g).natAbs = (a / g).natAbs * 1 := (Nat.mul_one _).symm
    _ ≤ (a / g).natAbs * g.natAbs := Nat.mul_le_mul_left _ g1
    _ = a.natAbs := e2
theorem up500 {n : Int} {k : Nat} (hk : k ≤ 500) (h : n.natAbs < 10 ^ k) : n.natAbs < 10 ^ 500 := Nat.lt_of_lt_of_le h (Nat.pow_le_pow_right (n := 10) (by decide) hk)
theorem up1000 {n : Int} {k : Nat} (hk : k ≤ 1000) (h : n.natAbs < 10 ^ k) : n.natAbs < 10 ^ 1000 := Nat.lt_of_lt_of_le h (Nat.pow_le_pow_right (n := 10) (by decide) hk)
theorem p3_of {v w : Int} (hv : v.natAbs < 10 ^ 31) (w0 : 0 ≤ w) (w1 : w < 10 ^ 31) : (v / g2 v (1 + w)).natAbs < 10 ^ 32 ∧ ((1 + w) / g2 v (1 + w)).natAbs < 10 ^ 32 ∧ fracOf (decL (v / g2 v (1 + w)) ++ ([47] ++ decL ((1 + w) / g2 v (1 + w)))) = some (v / g2 v (1 + w), (1 + w) / g2 v (1 + w)) := by
  have pos : 0 < 1 + w := by omega
  have gp := g2_pos (a := v) pos
  have d1 := div_abs gp (Int.gcd_dvd_left v (1 + w))
  have d2 := div_abs gp (Int.gcd_dvd_right v (1 + w))
  have b1 : (v / g2 v (1 + w)).natAbs < 10 ^ 32 := by
    change (v / g2 v (1 + w)).natAbs ≤ _ at d1
    omega
  have b2 : ((1 + w) / g2 v (1 + w)).natAbs < 10 ^ 32 := by
    change ((1 + w) / g2 v (1 + w)).natAbs ≤ _ at d2
    omega
  exact ⟨b1, b2, frac_dec pos (up1000 (by decide) b1) (up1000 (by decide) b2)⟩
theorem lo_dec (n : Int) : ∀ c ∈ decL n, c < 128 := fun c hc => by
  unfold decL at hc
  split at hc
  · rcases List.mem_cons.mp hc with e | e
    · omega
    · have := TL.numL_digits _ c e
      omega
  · have := TL.numL_digits _ c hc
    omega
theorem lo_fl (x y : Int) : Lo (S (fl x y)) := lo_S fun c hc => by
  unfold fl at hc
  rcases List.mem_append.mp hc with h | h
  · exact lo_dec x c h
  · rcases List.mem_append.mp h with h | h
    · rw [List.mem_singleton.mp h]; decide
    · exact lo_dec y c h
theorem cl_join (ns : List Int) : Txt.join (PySem.Str.ofString " ") (ns.map fun n => S (decL n)) = S (cl ns) := join_decs ns
theorem lo_cl (ns : List Int) : Lo (S (cl ns)) := by
  rw [← cl_join]
  exact Lo.join fun w hw => by
    obtain ⟨n, _, rfl⟩ := List.mem_map.mp hw
    exact lo_S (lo_dec n)
theorem len_cl {ns : List Int} (h : ∀ n ∈ ns, n.natAbs < 10 ^ 60) (h8 : ns.length ≤ 8) : (S (cl ns)).length ≤ 600 := by
  rw [← cl_join]
  refine Nat.le_trans (join_tot _) ?_
  unfold tot
  rw [List.map_map, List.length_map]
  have : ((ns.map ((fun x : PySem.Str => x.length) ∘ fun n => S (decL n))).sum ≤ ns.length * 61) := by
    clear h8
    induction ns with
    | nil => exact Nat.le_refl _
    | cons n r ih =>
      have h1 := decL_len (k := 60) (by decide) (h n (List.mem_cons_self ..))
      have h2 := ih fun m hm => h m (List.mem_cons_of_mem _ hm)
      rw [List.map_cons, List.sum_cons, List.length_cons, Nat.add_mul]
      have h3 : ((fun x : PySem.Str => x.length) ∘ fun n => S (decL n)) n = (decL n).length := S_len _
      omega
  omega
theorem len_fl {x y : Int} (hx : x.natAbs < 10 ^ 32) (hy : y.natAbs < 10 ^ 32) : (S (fl x y)).length ≤ 600 := by
  have h1 := decL_len (k := 32) (by decide) hx
  have h2 := decL_len (k := 32) (by decide) hy
  rw [S_len]
  unfold fl
  rw [List.length_append, List.length_append]
  show _ + (1 + _) ≤ _
  omega
/-- a text that a reader may be given -/
theorem th_str {H : Hp} {x : PySem.Str} (lo : Lo x) (len : x.length ≤ 16000) : Th K H (.str x) (.str x) := by
  refine ⟨.str x, by simp [PyData.showable], by simp [PyData.depth], ?_, fun y e => ?_⟩
  · have h := PyData.shown_le 8 (by decide) (.str x) (by
      rw [PyData.leavesShort, List.all_eq_true]
      exact fun c hc => decide_eq_true (Nat.lt_of_lt_of_le (lo c hc) (by decide)))
    have e : (PyData.str x).weight = x.length := by rw [PyData.weight]; rfl
    rw [e] at h
    rw [sizeLine_eq]
    omega
  · injection e with e
    rw [← e]
    exact len
theorem frac_th (x y : Int) (h : fracOf (decL x ++ ([47] ++ decL y)) = some (x, y)) : fracD (.str (S (fl x y))) = some (x, y) := h
theorem chain_th {ns : List Int} (ne : ns ≠ []) (h : ∀ n ∈ ns, n.natAbs < 10 ^ 60) : chainD (.str (S (cl ns))) = some ns := chain_dec ne fun n hn => up1000 (by decide) (h n hn)
def someA : List PySem.Str := [(PySem.Str.ofString ""), (PySem.Str.ofString " "), (PySem.Str.ofString "0/1"), (PySem.Str.ofString "0/2"), (PySem.Str.ofString "-1/2"), (PySem.Str.ofString "1/-2"), (PySem.Str.ofString "-0/1"), (PySem.Str.ofString "1/0"), (PySem.Str.ofString "1/2/3"), (PySem.Str.ofString "1 2/3"), S (List.replicate (1000 : Int).toNat 57), S (List.replicate (1001 : Int).toNat 57), (PySem.Str.ofString "1 ")]
def someB : List PySem.Str := [(PySem.Str.ofString " 1"), (PySem.Str.ofString "1  2"), ((PySem.Str.ofString "-") ++ S (List.replicate (1000 : Int).toNat 57)), ((PySem.Str.ofString "-") ++ S (List.replicate (1001 : Int).toNat 57)), (S (List.replicate (1000 : Int).toNat 57) ++ (PySem.Str.ofString "/1")), ((PySem.Str.ofString "1/") ++ S (List.replicate (1001 : Int).toNat 49)), (PySem.Str.ofString "-"), (PySem.Str.ofString "0 -0")]
def someC : List PySem.Str := [(PySem.Str.ofString "00"), (PySem.Str.ofString "1/1"), (PySem.Str.ofString "/1"), (PySem.Str.ofString "1_0"), (PySem.Str.ofString "1_0/7"), (PySem.Str.ofString "1/1_0"), (PySem.Str.ofString "7 1_0"), (PySem.Str.ofString "_1"), (PySem.Str.ofString "1_")]
theorem someA_ok : ∀ o ∈ someA, Lo o ∧ o.length ≤ 16000 := by
  have h1 : someA.all (fun o => o.cps.toList.all fun c => decide (c < 128)) = true := by decide +kernel
  have h2 : someA.all (fun o => decide (o.length ≤ 16000)) = true := by decide +kernel
  exact fun o ho => ⟨Lo.of (List.all_eq_true.mp h1 o ho), of_decide_eq_true (List.all_eq_true.mp h2 o ho)⟩
theorem someC_ok : ∀ o ∈ someC, Lo o ∧ o.length ≤ 16000 := by
  have h1 : someC.all (fun o => o.cps.toList.all fun c => decide (c < 128)) = true := by decide +kernel
  have h2 : someC.all (fun o => decide (o.length ≤ 16000)) = true := by decide +kernel
  exact fun o ho => ⟨Lo.of (List.all_eq_true.mp h1 o ho), of_decide_eq_true (List.all_eq_true.mp h2 o ho)⟩
theorem someB_ok : ∀ o ∈ someB, Lo o ∧ o.length ≤ 16000 := by
  intro o ho
  simp only [someB, List.mem_cons, List.not_mem_nil, or_false] at ho
  rcases ho with rfl | rfl | rfl | rfl | rfl | rfl | rfl | rfl
  · exact ⟨Lo.of (by decide +kernel), by decide +kernel⟩
  · exact ⟨Lo.of (by decide +kernel), by decide +kernel⟩
  · exact ⟨Lo.cat (Lo.of (by decide +kernel)) (Lo.of (by decide +kernel)), by rw [str_cat_len]; decide +kernel⟩
  · exact ⟨Lo.cat (Lo.of (by decide +kernel)) (Lo.of (by decide +kernel)), by rw [str_cat_len]; decide +kernel⟩
  · exact ⟨Lo.cat (Lo.of (by decide +kernel)) (Lo.of (by decide +kernel)), by rw [str_cat_len]; decide +kernel⟩
  · exact ⟨Lo.cat (Lo.of (by decide +kernel)) (Lo.of (by decide +kernel)), by rw [str_cat_len]; decide +kernel⟩
  · exact ⟨Lo.of (by decide +kernel), by decide +kernel⟩
  · exact ⟨Lo.of (by decide +kernel), by decide +kernel⟩
theorem some_ok : ∀ o ∈ (someA ++ someB) ++ someC, Lo o ∧ o.length ≤ 16000 := by
  intro o ho
  rcases List.mem_append.mp ho with h | h
  · rcases List.mem_append.mp h with h | h
    · exact someA_ok o h
    · exact someB_ok o h
  · exact someC_ok o h
theorem cat_fl (x y : Int) : PySem.Str.ofString (toString x) ++ PySem.Str.ofString "/" ++ PySem.Str.ofString (toString y) = S (fl x y) := by
  rw [dec_S, dec_S, slash_S, S_cat, S_cat, List.append_assoc]
  rfl
/-- all but p -/
def wo (p : Addr) (H : Hp) : Hp := fun b => if b = p then none else H b
theorem wo_at (p : Addr) (H : Hp) : wo p H p = none := if_pos rfl
theorem wo_same (p : Addr) (H : Hp) : Same (wo p H) H := fun b o e => by
  unfold wo at e
  split at e
  · cases e
  · exact e
theorem nw_wo {p : Addr} {H H' : Hp} (hp : H p ≠ none) : Same (nw H H') (wo p H') := fun b o e => by
  obtain ⟨h1, h2⟩ := nw_out e
  unfold wo
  rw [if_neg (fun z => hp (by rw [← z]; exact h1))]
  exact h2
/-- the law -/
def spLaw (K : PySem.W.Frag) : Sp := fun vs H Q _ => ∃ (a : Addr) (ns : List Int), vs = [.ref a] ∧ SqL K H a (ns.map V.int) ∧ ∀ H', Q (.bl true) H'
abbrev st_law : Stmt := top 29
theorem sc_law : FnScope ["script", "pen", "turn", "p", "pair", "fraction", "size", "chain", "texts", "some", "k", "time", "thing"] ["script"] (defScope st_law) := ⟨rfl, rfl, rfl, by decide +kernel, rfl, by decide +kernel, by decide +kernel⟩
theorem ok_law {g1 g2' g3 g4 g5 g6 g7 g8 g9 g10 g11 g12 C : Addr} {fd : FuncData} (F : Fun K "law" "law" st_law f fd) (T : Nm K mg base) (c__law_pen : Df P w K mg base CX0 1 "_law_pen" g1 (spPen K)) (c__law_draw : Df P w K mg base CX0 1 "_law_draw" g2' (spDraw K))
    (c__law_pick : Df P w K mg base CX0 2 "_law_pick" g3 (spPick K)) (c__law_great : Df P w K mg base CX0 2 "_law_great" g4 (spGreat K)) (c__law_fraction : Df P w K mg base CX0 2 "_law_fraction" g5 spFrac)
    (c_format_fraction : Df P w K mg base CX0 1 "format_fraction" g6 (spFmtF K)) (c_format_chain : Df P w K mg base CX0 1 "format_chain" g7 (spFmtC K)) (c_parse_fraction : Df P w K mg base (L2.CX P w) 3 "parse_fraction" g8 (spPF K C))
    (c_parse_chain : Df P w K mg base (L2.CX P w) 2 "parse_chain" g9 (spPC K C)) (c__law_bent_text : Df P w K mg base CX0 3 "_law_bent_text" g10 (spBent K)) (c__law_anything : Df P w K mg base CX0 4 "_law_anything" g11 (spA K 3))
    (c__law_decides : DfG P w K mg base CX0 5 "_law_decides" g12 (spDec K)) : FnG P w K mg base CX0 6 f fd ["script"] (spLaw K) := by
  have nd := sc_law.nd
  refine okQ0 F sc_law (fun vs H Q E h => ?_) (fun cdv A outer s H vs Q E quiet hr h => ?_)
  · obtain ⟨a, ns, rfl, _⟩ := h
    rfl
  · obtain ⟨a, ns, rfl, hs, k⟩ := h
    refine ⟨_, (pss_cons (ps_set (i := 1) nd rfl (Or.inr rfl) (pe_k c__law_pen hr (by decide) rfl (pa_cons (pv 0) pa_nil)))
    (pss_cons (ps_for PassesOwn.never rfl (pi_range1 rfl T.n_range (pa_cons pe_int pa_nil)) (pg_name (i := 2) nd rfl (Or.inl rfl)) (C8.pss_cut (ps_set (i := 3) nd rfl (Or.inl rfl) (pe_k c__law_pick hr (by decide) rfl (pa_cons (pv 1) (pa_cons (pe_lst (pa_cons (pe_op op_sub (pe_k c__law_draw hr (by decide) rfl (pa_cons (pv 1) (pa_cons pe_int pa_nil))) pe_int) (pa_cons (pe_k c__law_great hr (by decide) rfl (pa_cons (pv 1) (pa_cons pe_int pa_nil))) (pa_cons (pe_op op_sub pe_int (pe_k c__law_great hr (by decide) rfl (pa_cons (pv 1) (pa_cons pe_int pa_nil)))) pa_nil)))) pa_nil))))
    (C8.pss_cut (ps_set (i := 4) nd rfl (Or.inl rfl) (pe_tup (pa_cons (pv 3) (pa_cons (pe_op op_add pe_int (pe_k c__law_pick hr (by decide) rfl (pa_cons (pv 1) (pa_cons (pe_lst (pa_cons (pe_k c__law_draw hr (by decide) rfl (pa_cons (pv 1) (pa_cons pe_int pa_nil))) (pa_cons (pe_k c__law_great hr (by decide) rfl (pa_cons (pv 1) (pa_cons pe_int pa_nil))) pa_nil))) pa_nil)))) pa_nil))))
    (C8.pss_cut (ps_set (i := 5) nd rfl (Or.inl rfl) (pe_k c__law_fraction hr (by decide) rfl (pa_cons (pe_ix ix_tup (pv 4) pe_int (fun _ _ => rfl)) (pa_cons (pe_ix ix_tup (pv 4) pe_int (fun _ _ => rfl)) pa_nil))))
    (C8.pss_cut (ps_set (i := 6) nd rfl (Or.inr rfl) (pe_k c__law_pick hr (by decide) rfl (pa_cons (pv 1) (pa_cons (pe_lst (pa_cons pe_int (pa_cons pe_int (pa_cons pe_int pa_nil)))) pa_nil))))
    (C8.pss_cut (ps_setLc (i := 7) (own := [("k", 10)]) (g := gName 10) rfl nd rfl rfl (sw_true rfl rfl rfl (by decide +kernel)) (pi_range1 rfl T.n_range (pa_cons (pe_op op_add pe_int (pe_k c__law_draw hr (by decide) rfl (pa_cons (pv 1) (pa_cons pe_int pa_nil)))) pa_nil)) (blkOk_by (own := [("k", 10)]) (N := ["script", "pen", "turn", "p", "pair", "fraction", "size", "chain", "texts", "some", "k", "time", "thing"]) (sc := defScope st_law) (by decide +kernel)) (fun _ _ _ _ _ => pg_name (i := 10) nd rfl (Or.inl rfl)) (fun _ _ _ _ _ => pts_nil) (fun _ _ _ _ _ => (pe_op op_mul (pe_k c__law_great hr (by decide) rfl (pa_cons (pv 1) (pa_cons (pv 6) pa_nil))) (pe_k c__law_pick hr (by decide) rfl (pa_cons (pv 1) (pa_cons (pe_lst (pa_cons pe_int (pa_cons (pe_un un_neg pe_int) pa_nil))) pa_nil))))))
    (C8.pss_cut (ps_set (i := 8) nd rfl (Or.inl rfl) (pe_lst (pa_cons (pe_op op_add_str (pe_op op_add_str (pe_callTy call_str_int (by rfl) T.n_str (by decide +kernel) (pa_cons (pe_ix ix_tup (pv 5) pe_int (fun _ _ => rfl)) pa_nil)) pe_str) (pe_callTy call_str_int (by rfl) T.n_str (by decide +kernel) (pa_cons (pe_ix ix_tup (pv 5) pe_int (fun _ _ => rfl)) pa_nil))) (pa_cons (pe_join pe_str (pe_lc (own := [("time", 11)]) (g := gName 11) rfl nd (pi_list (pv 7)) (blkOk_by (own := [("time", 11)]) (N := ["script", "pen", "turn", "p", "pair", "fraction", "size", "chain", "texts", "some", "k", "time", "thing"]) (sc := defScope st_law) (by decide +kernel)) (fun _ _ _ _ _ => pg_name (i := 11) nd rfl (Or.inl rfl)) (fun _ _ _ _ _ => pts_nil) (fun _ _ _ _ _ => (pe_callTy call_str_int (by rfl) T.n_str (by decide +kernel) (pa_cons (pv 11) pa_nil))))) pa_nil))))
    (C8.pss_cut (ps_if (PW.pt (pw_or (pt_cmpR op_ne (pe_k c_format_fraction hr (by decide) rfl (pa_cons (pv 5) pa_nil)) (pe_ix ix_list (pv 8) pe_int (fun _ _ => rfl)) (nomark _)) (pw_or1 (pt_cmpR op_ne (pe_callB (call_reprB T.dig quiet hr.units) (by rfl) T.n_repr (by decide +kernel) (pa_cons (pe_kX c_parse_fraction hr (by decide) rfl takes0 (pa_cons (pe_ix ix_list (pv 8) pe_int (fun _ _ => rfl)) pa_nil)) pa_nil)) (pe_callB (call_reprB T.dig quiet hr.units) (by rfl) T.n_repr (by decide +kernel) (pa_cons (pv 5) pa_nil)) (nomark _))))) (pss_one (ps_ret pe_bl)) pss_nil)
    (C8.pss_cut (ps_if (PW.pt (pw_or (pt_cmpR op_ne (pe_k c_format_chain hr (by decide) rfl (pa_cons (pe_k c__law_pick hr (by decide) rfl (pa_cons (pv 1) (pa_cons (pe_lst (pa_cons (pv 7) (pa_cons (pe_callTy call_tuple_of (by rfl) T.n_tuple (by decide +kernel) (pa_cons (pv 7) pa_nil)) pa_nil))) pa_nil))) pa_nil)) (pe_ix ix_list (pv 8) pe_int (fun _ _ => rfl)) (nomark _)) (pw_or1 (pt_cmpR (op_neD hr.units) (pe_kX c_parse_chain hr (by decide) rfl takes0 (pa_cons (pe_ix ix_list (pv 8) pe_int (fun _ _ => rfl)) pa_nil)) (pv 7) (nomark _))))) (pss_one (ps_ret pe_bl)) pss_nil)
    (C8.pss_cut (ps_expr (pe_bm PySem.F.plainAttrs_list PySem.F.slot_list_append PySem.F.type_list_append mt_append (pe_kX c_parse_chain hr (by decide) rfl takes0 (pa_cons (pe_ix ix_list (pv 8) pe_int (fun _ _ => rfl)) pa_nil)) (pa_cons pe_non pa_nil)))
    (C8.pss_cut (ps_set (i := 8) nd rfl (Or.inl rfl) (pe_op op_cat (pv 8) (pe_lst (pa_cons (pe_op op_add_str (pe_op op_add_str (pe_callTy call_str_int (by rfl) T.n_str (by decide +kernel) (pa_cons (pe_ix ix_tup (pv 4) pe_int (fun _ _ => rfl)) pa_nil)) pe_str) (pe_callTy call_str_int (by rfl) T.n_str (by decide +kernel) (pa_cons (pe_ix ix_tup (pv 4) pe_int (fun _ _ => rfl)) pa_nil))) (pa_cons (pe_k c__law_bent_text hr (by decide) rfl (pa_cons (pv 1) (pa_cons (pe_ix ix_list (pv 8) pe_int (fun _ _ => rfl)) pa_nil))) (pa_cons (pe_k c__law_anything hr (by decide) rfl (pa_cons (pv 1) (pa_cons pe_int pa_nil))) pa_nil))))))
    (C8.pss_cut (ps_expr (pe_bm PySem.F.plainAttrs_list PySem.F.slot_list_append PySem.F.type_list_append mt_append (pv 8) (pa_cons (pe_k c__law_bent_text hr (by decide) rfl (pa_cons (pv 1) (pa_cons (pe_k c__law_bent_text hr (by decide) rfl (pa_cons (pv 1) (pa_cons (pe_ix ix_list (pv 8) pe_int (fun _ _ => rfl)) pa_nil))) pa_nil))) pa_nil)))
    (pss_one (ps_if (pt_cmpR (op_neF hr.units) (pe_lc (own := [("thing", 12)]) (g := gName 12) rfl nd (pi_list (pv 8)) (blkOk_by (own := [("thing", 12)]) (N := ["script", "pen", "turn", "p", "pair", "fraction", "size", "chain", "texts", "some", "k", "time", "thing"]) (sc := defScope st_law) (by decide +kernel)) (fun _ _ _ _ _ => pg_name (i := 12) nd rfl (Or.inl rfl)) (fun _ _ _ _ _ => (pts_one (pt_not (pt_val (pe_kG c__law_decides quiet hr (by decide) rfl (pa_cons (pv 12) pa_nil)))))) (fun _ _ _ _ _ => (pv 12))) (pe_lst pa_nil) (nomark _)) (pss_one (ps_ret pe_bl)) pss_nil))))))))))))))
    (pss_cons (ps_set (i := 9) nd rfl (Or.inl rfl) (pe_lst (pa_cons pe_str (pa_cons pe_str (pa_cons pe_str (pa_cons pe_str (pa_cons pe_str (pa_cons pe_str (pa_cons pe_str (pa_cons pe_str (pa_cons pe_str (pa_cons pe_str (pa_cons (pe_op op_mulS pe_str pe_int) (pa_cons (pe_op op_mulS pe_str pe_int) (pa_cons pe_str pa_nil)))))))))))))))
    (pss_cons (ps_set (i := 9) nd rfl (Or.inl rfl) (pe_op op_cat (pv 9) (pe_lst (pa_cons pe_str (pa_cons pe_str (pa_cons (pe_op op_add_str pe_str (pe_op op_mulS pe_str pe_int)) (pa_cons (pe_op op_add_str pe_str (pe_op op_mulS pe_str pe_int)) (pa_cons (pe_op op_add_str (pe_op op_mulS pe_str pe_int) pe_str) (pa_cons (pe_op op_add_str pe_str (pe_op op_mulS pe_str pe_int)) (pa_cons pe_str (pa_cons pe_str pa_nil)))))))))))
    (pss_cons (ps_set (i := 9) nd rfl (Or.inl rfl) (pe_op op_cat (pv 9) (pe_lst (pa_cons pe_str (pa_cons pe_str (pa_cons pe_str (pa_cons pe_str (pa_cons pe_str (pa_cons pe_str (pa_cons pe_str (pa_cons pe_str (pa_cons pe_str pa_nil))))))))))))
    (pss_one (ps_ret (pe_cmpR (op_eqD hr.units) (pe_lc (own := [("thing", 12)]) (g := gName 12) rfl nd (pi_list (pv 9)) (blkOk_by (own := [("thing", 12)]) (N := ["script", "pen", "turn", "p", "pair", "fraction", "size", "chain", "texts", "some", "k", "time", "thing"]) (sc := defScope st_law) (by decide +kernel)) (fun _ _ _ _ _ => pg_name (i := 12) nd rfl (Or.inl rfl)) (fun _ _ _ _ _ => (pts_one (pt_not (pt_val (pe_kG c__law_decides quiet hr (by decide) rfl (pa_cons (pv 12) pa_nil)))))) (fun _ _ _ _ _ => (pv 12))) (pe_lst pa_nil) (nomark _))))))))), ?_⟩
    refine ⟨_, rfl, a, ns, rfl, hs, fun p c H1 np s1 pen1 => ?_⟩
    refine ⟨8, rfl, by decide, by decide, for_range (lo := 0) (n := 8) (fun i σ' H' => ∃ o2 o3 o4 o5 o6 o7 o8 : Option V, σ' = [some (.ref a), some (.ref p), o2, o3, o4, o5, o6, o7, o8, none, none, none, none] ∧ Fix K p c (1000 * i) B0 H') ⟨none, none, none, none, none, none, none, rfl, ⟨rfl, (fun b o e => nomatch (show (none : Option HO) = some o from e)), pen1⟩⟩ ?_ ?_⟩
    · rintro i σ' H' hi ⟨o2, o3, o4, o5, o6, o7, o8, rfl, fx⟩
      have i8 : i < 8 := hi
      clear s1 np pen1 hs k
      refine ⟨fun σ' H' => ∃ (v : Int) (o2 : Option V), v.natAbs < 10 ^ 31 ∧ σ' = [some (.ref a), some (.ref p), o2, some (.int v), o4, o5, o6, o7, o8, none, none, none, none] ∧ Fix K p c (1000 * i + 62) B0 H', ?_, ?_⟩
      · refine ⟨_, rfl, _, rfl, p, c, 9, _, rfl, fx.pen, by omega, (by decide), small_pow (by decide), fun d H2 d0 d1 k2 pen2 => ?_⟩
        refine ⟨_, _, rfl, rfl, _, rfl, p, c, _, 30, rfl, pen2, by omega, by decide, fun e H3 e0 e1 k3 pen3 => ?_⟩
        refine ⟨_, rfl, p, c, _, 30, rfl, pen3, by omega, by decide, fun e2 H4 e20 e21 k4 pen4 => ?_⟩
        refine ⟨_, _, rfl, rfl, (by show 3 ≤ sizeLine; decide), fun l hl => ?_⟩
        have fx4 := ((fx.kp k2 pen2).kp k3 pen3).kp k4 pen4
        refine ⟨p, c, l, _, _, rfl, pen4.same (new_same hl), by omega, SqL.of upd_same, List.cons_ne_nil _ _, (by show 3 ≤ sizeLine; decide), fun v hv H5 k5 pen5 => ?_⟩
        have fx5 := (fx4.same (new_same hl)).kp k5 pen5
        simp only [List.mem_cons, List.not_mem_nil, or_false] at hv
        obtain ⟨z, rfl, hz⟩ : ∃ z : Int, v = .int z ∧ z.natAbs < 10 ^ 31 := by
          rcases hv with rfl | rfl | rfl
          · exact ⟨_, rfl, by omega⟩
          · exact ⟨_, rfl, by omega⟩
          · exact ⟨_, rfl, by omega⟩
        exact ⟨z, _, hz, rfl, fx5⟩
      rintro σ' H' ⟨v, o2, hv, rfl, fx⟩
      refine ⟨fun σ' H' => ∃ (w : Int) (t : Addr) (B : Hp), P2 B t v w ∧ σ' = [some (.ref a), some (.ref p), o2, some (.int v), some (.ref t), o5, o6, o7, o8, none, none, none, none] ∧ Fix K p c (1000 * i + 94) B H', ?_, ?_⟩
      · refine ⟨_, rfl, _, rfl, _, rfl, p, c, 9, _, rfl, fx.pen, by omega, (by decide), small_pow (by decide), fun d H2 d0 d1 k2 pen2 => ?_⟩
        refine ⟨_, rfl, p, c, _, 30, rfl, pen2, by omega, by decide, fun e H3 e0 e1 k3 pen3 => ?_⟩
        refine ⟨(by show 2 ≤ sizeLine; decide), fun l hl => ?_⟩
        have fx4 := (fx.kp k2 pen2).kp k3 pen3
        refine ⟨p, c, l, _, _, rfl, pen3.same (new_same hl), by omega, SqL.of upd_same, List.cons_ne_nil _ _, (by show 2 ≤ sizeLine; decide), fun v' hv' H5 k5 pen5 => ?_⟩
        have fx5 := (fx4.same (new_same hl)).kp k5 pen5
        simp only [List.mem_cons, List.not_mem_nil, or_false] at hv'
        obtain ⟨z, rfl, hz0, hz⟩ : ∃ z : Int, v' = .int z ∧ 0 ≤ z ∧ z < 10 ^ 31 := by
          rcases hv' with rfl | rfl
          · exact ⟨_, rfl, by omega, by omega⟩
          · exact ⟨_, rfl, by omega, by omega⟩
        refine ⟨_, _, rfl, rfl, (by show 2 ≤ sizeLine; decide), fun t ht => ?_⟩
        exact ⟨z, t, _, ⟨upd_same, hv, hz0, hz⟩, rfl, fx5.add ht⟩
      rintro σ' H' ⟨w, t, B, p2, rfl, fx⟩
      refine ⟨fun σ' H' => ∃ (x y : Int) (tf : Addr) (B : Hp), P2 B t v w ∧ P3 B tf x y ∧ σ' = [some (.ref a), some (.ref p), o2, some (.int v), some (.ref t), some (.ref tf), o6, o7, o8, none, none, none, none] ∧ Fix K p c (1000 * i + 94) B H', ?_, ?_⟩
      · have ht := fx.sm _ _ p2.1
        refine ⟨_, rfl, t, _, 0, _, rfl, rfl, SqT.of ht, atI_nat (j := 0) rfl, _, rfl, t, _, 1, _, rfl, rfl, SqT.of ht, atI_nat (j := 1) rfl, v, 1 + w, rfl, by have := p2.2.2.1; omega, pow_dec (up1000 (k := 32) (by decide) (by have := p2.2; omega)), fun tf htf => ?_⟩
        obtain ⟨b1, b2, b3⟩ := p3_of p2.2.1 p2.2.2.1 p2.2.2.2
        exact ⟨_, _, tf, _, p2.same (new_same (fx.bq htf)), ⟨upd_same, b1, b2, b3⟩, rfl, fx.add htf⟩
      rintro σ' H' ⟨x, y, tf, B, p2, p3, rfl, fx⟩
      refine ⟨fun σ' H' => ∃ (z : Nat), z ≤ 60 ∧ σ' = [some (.ref a), some (.ref p), o2, some (.int v), some (.ref t), some (.ref tf), some (.int (z : Int)), o7, o8, none, none, none, none] ∧ Fix K p c (1000 * i + 95) B H', ?_, ?_⟩
      · refine ⟨_, rfl, (by show 3 ≤ sizeLine; decide), fun l hl => ?_⟩
        refine ⟨p, c, l, _, _, rfl, fx.pen.same (new_same hl), by omega, SqL.of upd_same, List.cons_ne_nil _ _, (by show 3 ≤ sizeLine; decide), fun v' hv' H5 k5 pen5 => ?_⟩
        have fx5 := (fx.same (new_same hl)).kp k5 pen5
        simp only [List.mem_cons, List.not_mem_nil, or_false] at hv'
        rcases hv' with rfl | rfl | rfl
        · exact ⟨1, by decide, rfl, fx5⟩
        · exact ⟨2, by decide, rfl, fx5⟩
        · exact ⟨60, by decide, rfl, fx5⟩
      rintro σ' H' ⟨z, hz, rfl, fx⟩
      refine ⟨fun σ' H' => ∃ (ns : List Int) (tc : Addr) (B : Hp), P2 B t v w ∧ P3 B tf x y ∧ P5 B tc ns ∧ σ' = [some (.ref a), some (.ref p), o2, some (.int v), some (.ref t), some (.ref tf), some (.int (z : Int)), some (.ref tc), o8, none, none, none, none] ∧ Fix K p c (1000 * i + 584) B H', ?_, ?_⟩
      · refine ⟨_, rfl, p, c, 8, _, rfl, fx.pen, by omega, (by decide), small_pow (by decide), fun m H2 m0 m1 k2 pen2 => ?_⟩
        have fx2 := fx.kp k2 pen2
        refine ⟨_, _, rfl, rfl, _, rfl, by omega, by omega, fun D hD => ?_⟩
        have nDp := pen2.new_p hD
        have nDc := pen2.new_c hD
        have BD := fx2.bq hD
        refine lc_range (lo := 0) (n := (1 + m).toNat) (fun j H3 => ∃ ns : List Int, H3 D = some (.lst (ns.map V.int)) ∧ ns.length = j ∧ (∀ n ∈ ns, n.natAbs < 10 ^ 60) ∧ Fix K p c (1000 * i + 96 + j * 61) B H3) ⟨[], upd_same, rfl, (fun n hn => by cases hn), (fx2.same (new_same hD)).le (by omega)⟩ ?_ ?_
        · rintro j H3 hj ⟨ns, hD3, len, sm, fx3⟩
          have j8 : j < 8 := by omega
          refine ⟨rfl, _, rfl, _, rfl, p, c, _, z, rfl, fx3.pen, by omega, by omega, fun e H4 e0 e1 k4 pen4 => ?_⟩
          refine ⟨_, rfl, _, rfl, (by show 2 ≤ sizeLine; decide), fun l hl => ?_⟩
          have fx4 := fx3.kp k4 pen4
          refine ⟨p, c, l, _, _, rfl, pen4.same (new_same hl), by omega, SqL.of upd_same, List.cons_ne_nil _ _, (by show 2 ≤ sizeLine; decide), fun v' hv' H5 k5 pen5 => ?_⟩
          have fx5 := (fx4.same (new_same hl)).kp k5 pen5
          have hD5 : H5 D = some (.lst (ns.map V.int)) := k5 _ _ nDp (new_same hl _ _ (k4 _ _ nDp hD3))
          have e60 : e < 10 ^ 60 := Int.lt_of_lt_of_le e1 (by
            have h1 : (10 : Nat) ^ z ≤ 10 ^ 60 := Nat.pow_le_pow_right (by decide) hz
            exact_mod_cast h1)
          simp only [List.mem_cons, List.not_mem_nil, or_false] at hv'
          obtain ⟨s, rfl, hs⟩ : ∃ s : Int, v' = .int s ∧ (s = 1 ∨ s = -1) := by
            rcases hv' with rfl | rfl
            · exact ⟨_, rfl, .inl rfl⟩
            · exact ⟨_, rfl, .inr rfl⟩
          refine ⟨_, _, rfl, rfl, .inr (by rcases hs with rfl | rfl <;> decide), _, hD5, ?_, ns ++ [e * s], ?_, ?_, ?_, ?_⟩
          · rw [List.length_map, len]
            exact Nat.lt_of_lt_of_le (show j < 100 by omega) (by decide)
          · rw [upd_same, List.map_append]
            rfl
          · rw [List.length_append, len]
            rfl
          · intro n hn
            rcases List.mem_append.mp hn with hn | hn
            · exact sm n hn
            · rw [List.mem_singleton.mp hn]
              rcases hs with rfl | rfl
              · omega
              · omega
          · exact (fx5.put BD nDp nDc).le (by omega)
        · rintro H3 ⟨ns, hD3, len, sm, fx3⟩
          have ln : (1 + m).toNat ≤ 8 := by omega
          refine ⟨ns, D, _, p2.same (new_same BD), p3.same (new_same BD), ⟨upd_same, fun e => ?_, by omega, sm⟩, rfl, (fx3.own nDp hD3).le (by omega)⟩
          rw [e] at len
          simp at len
          omega
      rintro σ' H' ⟨ns, tc, B, p2, p3, p5, rfl, fx⟩
      refine ⟨fun σ' H' => ∃ (tt : Addr) (B : Hp), P2 B t v w ∧ P3 B tf x y ∧ P5 B tc ns ∧ P6 B tt x y ns ∧ σ' = [some (.ref a), some (.ref p), o2, some (.int v), some (.ref t), some (.ref tf), some (.int (z : Int)), some (.ref tc), some (.ref tt), none, none, none, none] ∧ Fix K p c (1000 * i + 584) B H', ?_, ?_⟩
      · have hf := fx.sm _ _ p3.1
        have hc := fx.sm _ _ p5.1
        have l1 := decL_len (k := 32) (by decide) p3.2.1
        have l2 := decL_len (k := 32) (by decide) p3.2.2.1
        have line : 2000 ≤ sizeLine := by decide
        refine ⟨_, rfl, tf, _, 0, _, rfl, rfl, SqT.of hf, atI_nat (j := 0) rfl, x, rfl, log_dec (up500 (by decide) p3.2.1), _, _, rfl, rfl, ?_, _, rfl, tf, _, 1, _, rfl, rfl, SqT.of hf, atI_nat (j := 1) rfl, y, rfl, log_dec (up500 (by decide) p3.2.2.1), _, _, rfl, rfl, ?_, ?_⟩
        · show (PySem.Str.ofString (toString x)).length + (PySem.Str.ofString "/").length ≤ _
          rw [dec_S, slash_S, S_len, S_len]
          show _ + 1 ≤ _
          omega
        · show (PySem.Str.ofString (toString x) ++ PySem.Str.ofString "/").length + (PySem.Str.ofString (toString y)).length ≤ _
          rw [← str_cat_len, cat_fl, S_len]
          have := len_fl p3.2.1 p3.2.2.1
          rw [S_len] at this
          omega
        refine ⟨⟨_, rfl⟩, _, rfl, tc, rfl, ⟨_, SqL.of hc⟩, fun D hD => lc_list (K := K) (a := tc) (xs := ns.map V.int) (fun j H2 => Bes D H' H2 ∧ H2 D = some (.lst (((ns.take j).map fun n => S (decL n)).map V.str))) ⟨bes_start, upd_same⟩ ?_ ?_ ?_⟩
        · rintro j H2 _ ⟨b2, _⟩
          exact Same.seq (same_new hD b2) (SqL.of hc)
        · rintro j x' H2 hx ⟨b2, l2⟩
          rw [List.getElem?_map] at hx
          cases e : ns[j]? with
          | none => rw [e] at hx; cases hx
          | some n =>
            rw [e] at hx
            obtain rfl : V.int n = x' := Option.some.inj hx
            refine ⟨rfl, _, rfl, n, rfl, log_dec (up500 (by decide) (p5.2.2.2 n (List.mem_of_getElem? e))), _, l2, ?_, bes_put b2, ?_⟩
            · rw [List.length_map, List.length_map, List.length_take]
              exact Nat.lt_of_le_of_lt (Nat.min_le_right _ _) (small1000 (Nat.le_trans p5.2.2.1 (by decide)))
            · rw [upd_same, take_more e, List.map_append, List.map_append, List.map_singleton, List.map_singleton, ← dec_S]
        · rintro H2 ⟨b2, l2⟩
          rw [List.length_map, List.take_length] at l2
          have sD := same_new hD b2
          refine ⟨_, D, _, rfl, rfl, .inl (SqL.of l2), ?_, ?_⟩
          · have h1 := lens_le (ns := ns) fun n hn => up500 (by decide) (p5.2.2.2 n hn)
            rw [List.length_map]
            have h2 : (PySem.Str.ofString " ").length = 1 := by rw [space_S]; rfl
            rw [h2]
            have := p5.2.2.1
            omega
          · refine ⟨(by show 2 ≤ sizeLine; decide), fun tt htt => ?_⟩
            have fx2 := fx.same sD
            have nb := fx2.bq htt
            refine ⟨tt, _, p2.same (new_same nb), p3.same (new_same nb), p5.same (new_same nb), ?_, rfl, fx2.add htt⟩
            show (upd B tt _) tt = _
            rw [upd_same]
            show some (HO.lst [.str (PySem.Str.ofString (toString x) ++ PySem.Str.ofString "/" ++ PySem.Str.ofString (toString y)), .str (Txt.join (PySem.Str.ofString " ") (ns.map fun n => S (decL n)))]) = _
            rw [cat_fl, cl_join]
      rintro σ' H' ⟨tt, B, p2, p3, p5, p6, rfl, fx⟩
      have ef := frac_th x y p3.2.2.2
      have ec := chain_th p5.2.1 p5.2.2.2
      have at0 : atI [V.str (S (fl x y)), V.str (S (cl ns))] 0 = some (V.str (S (fl x y))) := atI_nat (j := 0) rfl
      have at1 : atI [V.str (S (fl x y)), V.str (S (cl ns))] 1 = some (V.str (S (cl ns))) := atI_nat (j := 1) rfl
      have thF : ∀ H : Hp, Th K H (.str (S (fl x y))) (.str (S (fl x y))) := fun H => th_str (lo_fl x y) (Nat.le_trans (len_fl p3.2.1 p3.2.2.1) (by decide))
      have thC : ∀ H : Hp, Th K H (.str (S (cl ns))) (.str (S (cl ns))) := fun H => th_str (lo_cl ns) (Nat.le_trans (len_cl p5.2.2.2 p5.2.2.1) (by decide))
      refine ⟨fun σ' H' => σ' = [some (.ref a), some (.ref p), o2, some (.int v), some (.ref t), some (.ref tf), some (.int (z : Int)), some (.ref tc), some (.ref tt), none, none, none, none] ∧ Fix K p c (1000 * i + 584) B H', ?_, ?_⟩
      · have hf := fx.sm _ _ p3.1
        have ht := fx.sm _ _ p6
        refine ⟨_, rfl, tf, x, y, rfl, SqT.of hf, up500 (by decide) p3.2.1, up500 (by decide) p3.2.2.1, ?_⟩
        refine ⟨_, rfl, tt, _, 0, _, rfl, rfl, SqL.of ht, at0, rfl, _, rfl, ifN (by rw [show fl x y = decL x ++ ([47] ++ decL y) from rfl, decide_eq_true rfl]; rfl) ?_⟩
        refine ⟨_, rfl, tt, _, 0, _, rfl, rfl, SqL.of ht, at0, _, _, rfl, thF H', (fun e => by rw [ef] at e; cases e), fun _ => ?_⟩
        rw [ef]
        intro H2 q s2 hq
        have sm2 : ∀ n ∈ [x, y], n.natAbs < 10 ^ 1000 := fracD_small ef
        refine ⟨q, [x, y], rfl, fun n hn => great_dec (sm2 n hn), .inr ⟨SqT.of hq, tuple_fits sm2 (by show 2 ≤ 16001; decide), ?_⟩⟩
        refine ⟨_, rfl, tf, [x, y], rfl, fun n hn => great_dec (sm2 n hn), .inr ⟨SqT.of (s2 _ _ hf), tuple_fits sm2 (by show 2 ≤ 16001; decide), ?_⟩⟩
        exact ⟨rfl, _, rfl, ifN (by rw [decide_eq_true rfl]; rfl) ⟨rfl, fx.same s2⟩⟩
      rintro σ' H' ⟨rfl, fx⟩
      refine ⟨fun σ' H' => σ' = [some (.ref a), some (.ref p), o2, some (.int v), some (.ref t), some (.ref tf), some (.int (z : Int)), some (.ref tc), some (.ref tt), none, none, none, none] ∧ Fix K p c (1000 * i + 585) B H', ?_, ?_⟩
      · have hc := fx.sm _ _ p5.1
        have ht := fx.sm _ _ p6
        refine ⟨_, rfl, _, rfl, _, rfl, tc, _, rfl, .inl ⟨SqL.of hc, fun u hu => ?_⟩⟩
        refine ⟨(by show 2 ≤ sizeLine; decide), fun l hl => ?_⟩
        have su : Same H' (upd H' u (.tup (ns.map V.int))) := new_same hu
        have iu : (upd H' u (.tup (ns.map V.int))) u = some (.tup (ns.map V.int)) := upd_same
        have sl : Same (upd H' u (.tup (ns.map V.int))) (upd (upd H' u (.tup (ns.map V.int))) l (.lst [.ref tc, .ref u])) := new_same hl
        have fx2 := (fx.same su).same sl
        refine ⟨p, c, l, _, _, rfl, fx2.pen, by omega, SqL.of upd_same, List.cons_ne_nil _ _, (by show 2 ≤ sizeLine; decide), fun v' hv' H5 k5 pen5 => ?_⟩
        have fx5 := fx2.kp k5 pen5
        have nup : u ≠ p := fx.pen.new_p hu
        have hu5 : H5 u = some (.tup (ns.map V.int)) := k5 _ _ nup (sl _ _ iu)
        have hc5 := fx5.sm _ _ p5.1
        have ht5 := fx5.sm _ _ p6
        have n500 : ∀ n ∈ ns, n.natAbs < 10 ^ 500 := fun n hn => up500 (by decide) (p5.2.2.2 n hn)
        obtain ⟨q, rfl, hq⟩ : ∃ q : Addr, v' = .ref q ∧ (SqL K H5 q (ns.map V.int) ∨ SqT K H5 q (ns.map V.int)) := by
          simp only [List.mem_cons, List.not_mem_nil, or_false] at hv'
          rcases hv' with rfl | rfl
          · exact ⟨tc, rfl, .inl (SqL.of hc5)⟩
          · exact ⟨u, rfl, .inr (SqT.of hu5)⟩
        refine ⟨q, ns, rfl, hq, Nat.le_trans p5.2.2.1 (by decide), n500, fun H6 s6 => ?_⟩
        have fx6 := fx5.same s6
        have ht6 := fx6.sm _ _ p6
        refine ⟨_, rfl, tt, _, 1, _, rfl, rfl, SqL.of ht6, at1, rfl, _, rfl, ifN (by rw [show cl ns = TL.joinL [32] (ns.map decL) from rfl, decide_eq_true rfl]; rfl) ?_⟩
        refine ⟨_, rfl, tt, _, 1, _, rfl, rfl, SqL.of ht6, at1, _, _, rfl, thC H6, (fun e => by rw [ec] at e; cases e), fun _ => ?_⟩
        rw [ec]
        intro H7 q2 s7 _ hq2
        have fx7 := fx6.same s7
        refine ⟨_, rfl, _, _, Dp.ints (SqL.of hq2), Dp.ints (SqL.of (fx7.sm _ _ p5.1)), shaped_ints _, shaped_ints _, _, rfl, ifN ?_ ⟨rfl, fx7⟩⟩
        rw [eqv_list_ints, decide_eq_true rfl]
        rfl
      rintro σ' H' ⟨rfl, fx⟩
      refine ⟨fun σ' H' => σ' = [some (.ref a), some (.ref p), o2, some (.int v), some (.ref t), some (.ref tf), some (.int (z : Int)), some (.ref tc), some (.ref tt), none, none, none, none] ∧ Fix K p c (1000 * i + 585) B H', ?_, ?_⟩
      · have ht := fx.sm _ _ p6
        refine ⟨_, rfl, tt, _, 1, _, rfl, rfl, SqL.of ht, at1, _, _, rfl, thC H', (fun e => by rw [ec] at e; cases e), fun _ => ?_⟩
        rw [ec]
        intro H7 q s7 fr hq
        have fx7 := fx.same s7
        refine ⟨.inl ⟨rfl, _, SqL.of hq⟩, q, _, _, rfl, rfl, hq, ?_, rfl, fx7.put (fx.bq fr) (fx.pen.new_p fr) (fx.pen.new_c fr)⟩
        rw [List.length_map]
        exact Nat.lt_of_le_of_lt p5.2.2.1 (by decide)
      rintro σ' H' ⟨rfl, fx⟩
      refine ⟨fun σ' H' => ∃ (tt2 : Addr) (its : List V) (B : Hp), B tt2 = none ∧ tt2 ≠ p ∧ tt2 ≠ c ∧ H' tt2 = some (.lst its) ∧ its.length = 5 ∧ its[1]? = some (.str (S (cl ns))) ∧ (∀ y ∈ its, ∃ d, Th K B y d) ∧ σ' = [some (.ref a), some (.ref p), o2, some (.int v), some (.ref t), some (.ref tf), some (.int (z : Int)), some (.ref tc), some (.ref tt2), none, none, none, none] ∧ Fix K p c (1000 * i + 615) B H', ?_, ?_⟩
      · have ht := fx.sm _ _ p6
        have hp := fx.sm _ _ p2.1
        have b1 : (1 + w).natAbs < 10 ^ 32 := by have := p2.2; omega
        have b0 : v.natAbs < 10 ^ 32 := by have := p2.2.1; omega
        have l1 := decL_len (k := 32) (by decide) b0
        have l2 := decL_len (k := 32) (by decide) b1
        have line : 2000 ≤ sizeLine := by decide
        refine ⟨_, rfl, _, rfl, t, _, 0, _, rfl, rfl, SqT.of hp, atI_nat (j := 0) rfl, v, rfl, log_dec (up500 (by decide) b0), _, _, rfl, rfl, ?_, _, rfl, t, _, 1, _, rfl, rfl, SqT.of hp, atI_nat (j := 1) rfl, (1 + w), rfl, log_dec (up500 (by decide) b1), _, _, rfl, rfl, ?_, ?_⟩
        · show (PySem.Str.ofString (toString v)).length + (PySem.Str.ofString "/").length ≤ _
          rw [dec_S, slash_S, S_len, S_len]
          show _ + 1 ≤ _
          omega
        · show (PySem.Str.ofString (toString v) ++ PySem.Str.ofString "/").length + (PySem.Str.ofString (toString (1 + w))).length ≤ _
          rw [← str_cat_len, cat_fl, S_len]
          have := len_fl b0 b1
          rw [S_len] at this
          omega
        refine ⟨_, rfl, _, rfl, tt, _, 0, _, rfl, rfl, SqL.of ht, at0, p, c, _, _, rfl, fx.pen, by omega, Nat.le_trans (len_fl p3.2.1 p3.2.2.1) (by decide), lo_fl x y, fun y1 H2 k2 pen2 ly1 lo1 => ?_⟩
        have fx2 := fx.kp k2 pen2
        refine ⟨_, rfl, p, c, _, rfl, pen2, by change _ + 26 < _; omega, fun v' d H3 k3 pen3 dv da => ?_⟩
        have fx3 := fx2.kp k3 pen3
        have ht3 := fx3.sm _ _ p6
        refine ⟨(by show 3 ≤ sizeLine; decide), fun l hl => ?_⟩
        refine ⟨tt, l, _, _, rfl, rfl, new_same hl _ _ ht3, upd_same, (by show 5 ≤ sizeLine; decide), fun tt2 htt2 => ?_⟩
        have pH2 : H2 p ≠ none := fun e => by
          obtain ⟨kvs, hp⟩ := pen2.at
          rw [hp] at e
          cases e
        have pB : wo p H3 p = none := wo_at p H3
        have fB : Fix K p c (1000 * i + 615) (wo p H3) H3 := ⟨wo_at p H3, wo_same p H3, pen3.le (by change _ + 26 ≤ _; omega)⟩
        have nt3 : H3 tt2 = none := Same.free (new_same hl) htt2
        refine ⟨tt2, _, wo p H3, fB.bq nt3, pen3.new_p nt3, pen3.new_c nt3, upd_same, rfl, rfl, ?_, rfl, (fB.same (new_same hl)).same (new_same htt2)⟩
        intro it hit
        rcases List.mem_append.mp hit with hit | hit
        · simp only [List.mem_cons, List.not_mem_nil, or_false] at hit
          rcases hit with rfl | rfl
          · exact ⟨_, thF _⟩
          · exact ⟨_, thC _⟩
        · simp only [List.mem_cons, List.not_mem_nil, or_false] at hit
          rcases hit with rfl | rfl | rfl
          · refine ⟨_, th_str ?_ ?_⟩
            · show Lo (PySem.Str.ofString (toString v) ++ PySem.Str.ofString "/" ++ PySem.Str.ofString (toString (1 + w)))
              rw [cat_fl]
              exact lo_fl _ _
            · show (PySem.Str.ofString (toString v) ++ PySem.Str.ofString "/" ++ PySem.Str.ofString (toString (1 + w))).length ≤ _
              rw [cat_fl]
              exact Nat.le_trans (len_fl b0 b1) (by decide)
          · have := len_fl p3.2.1 p3.2.2.1
            exact ⟨_, th_str lo1 (by omega)⟩
          · exact ⟨d, da.th (DV.same (nw_wo pH2) dv) (by decide)⟩
      rintro σ' H' ⟨tt2, its, B, hB, np2, nc2, hI, len, one, ths, rfl, fx⟩
      refine ⟨fun σ' H' => ∃ (its : List V), H' tt2 = some (.lst its) ∧ its.length = 6 ∧ (∀ y ∈ its, ∃ d, Th K B y d) ∧ σ' = [some (.ref a), some (.ref p), o2, some (.int v), some (.ref t), some (.ref tf), some (.int (z : Int)), some (.ref tc), some (.ref tt2), none, none, none, none] ∧ Fix K p c (1000 * i + 623) B H', ?_, ?_⟩
      · have atb : atI its 1 = some (V.str (S (cl ns))) := atI_nat (j := 1) one
        have lc := len_cl p5.2.2.2 p5.2.2.1
        refine ⟨_, rfl, .inl ⟨rfl, _, SqL.of hI⟩, _, rfl, _, rfl, _, rfl, tt2, _, 1, _, rfl, rfl, SqL.of hI, atb, p, c, _, _, rfl, fx.pen, by omega, by omega, lo_cl ns, fun y1 H2 k2 pen2 ly1 lo1 => ?_⟩
        refine ⟨p, c, _, _, rfl, pen2, by omega, by omega, lo1, fun y2 H3 k3 pen3 ly2 lo2 => ?_⟩
        have fx3 := (fx.kp k2 pen2).kp k3 pen3
        have hI3 := k3 _ _ np2 (k2 _ _ np2 hI)
        refine ⟨tt2, _, _, rfl, rfl, hI3, by rw [len]; decide, its ++ [.str y2], upd_same, by rw [List.length_append, len]; rfl, fun it hit => ?_, rfl, fx3.put hB np2 nc2⟩
        rcases List.mem_append.mp hit with hit | hit
        · exact ths it hit
        · rw [List.mem_singleton.mp hit]
          exact ⟨_, th_str lo2 (by omega)⟩
      rintro σ' H' ⟨its, hI, len, ths, rfl, fx⟩
      refine ⟨_, rfl, tt2, rfl, ⟨_, SqL.of hI⟩, fun D hD => lc_list (K := K) (a := tt2) (xs := its) (fun j H2 => Bes D H' H2 ∧ H2 D = some (.lst [])) ⟨bes_start, upd_same⟩ ?_ ?_ ?_⟩
      · rintro j H2 _ ⟨b2, _⟩
        exact Same.seq (same_new hD b2) (SqL.of hI)
      · rintro j it H2 hit ⟨b2, l2⟩
        obtain ⟨d, th⟩ := ths it (List.mem_of_getElem? hit)
        have th2 := (th.same fx.sm).same (same_new hD b2)
        refine ⟨rfl, _, rfl, it, d, rfl, th2, fun H3 s3 => ⟨_, rfl, iteF ⟨fun b o n e => s3 _ _ (b2 b o n e), s3 _ _ l2⟩⟩⟩
      · rintro H2 ⟨b2, l2⟩
        have sD := same_new hD b2
        refine ⟨Nat.zero_le _, fun q hq => ?_⟩
        refine ⟨D, q, [], [], rfl, rfl, SqL.of (new_same hq _ _ l2), SqL.of upd_same, .inr ⟨rfl, rfl, _, rfl, iteF ?_⟩⟩
        exact ⟨_, _, _, _, _, _, _, rfl, ((fx.same sD).same (new_same hq)).ground (by omega)⟩
    · rintro σ' H' ⟨o2, o3, o4, o5, o6, o7, o8, rfl, fx⟩
      have big : 20000 ≤ sizeLine := by decide
      refine ⟨57, 1000, nine_S, rfl, (by decide), (by decide), 57, 1001, nine_S, rfl, (by decide), (by decide), (by show 13 ≤ sizeLine; decide), fun l1 hl1 => ?_⟩
      refine ⟨_, rfl, 57, 1000, nine_S, rfl, (by decide), (by decide), _, _, rfl, rfl, (by show ((PySem.Str.ofString "-")).length + (S (List.replicate (1000 : Int).toNat 57)).length ≤ sizeLine; exact Nat.le_trans (by decide +kernel : _ ≤ 20000) big), 57, 1001, nine_S, rfl, (by decide), (by decide), _, _, rfl, rfl, (by show ((PySem.Str.ofString "-")).length + (S (List.replicate (1001 : Int).toNat 57)).length ≤ sizeLine; exact Nat.le_trans (by decide +kernel : _ ≤ 20000) big), 57, 1000, nine_S, rfl, (by decide), (by decide), _, _, rfl, rfl, (by show (S (List.replicate (1000 : Int).toNat 57)).length + ((PySem.Str.ofString "/1")).length ≤ sizeLine; exact Nat.le_trans (by decide +kernel : _ ≤ 20000) big), 49, 1001, one_S, rfl, (by decide), (by decide), _, _, rfl, rfl, (by show ((PySem.Str.ofString "1/")).length + (S (List.replicate (1001 : Int).toNat 49)).length ≤ sizeLine; exact Nat.le_trans (by decide +kernel : _ ≤ 20000) big), (by show 8 ≤ sizeLine; decide), fun l2 hl2 => ?_⟩
      have s1 : Same H' (upd H' l1 (.lst (someA.map V.str))) := new_same hl1
      have i1 : (upd H' l1 (.lst (someA.map V.str))) l1 = some (.lst (someA.map V.str)) := upd_same
      have s2 : Same (upd H' l1 (.lst (someA.map V.str))) (upd (upd H' l1 (.lst (someA.map V.str))) l2 (.lst (someB.map V.str))) := new_same hl2
      have i2 : (upd (upd H' l1 (.lst (someA.map V.str))) l2 (.lst (someB.map V.str))) l2 = some (.lst (someB.map V.str)) := upd_same
      refine ⟨l1, l2, someA.map V.str, someB.map V.str, rfl, rfl, s2 _ _ i1, i2, (by show 21 ≤ sizeLine; decide), fun l3 hl3 => ?_⟩
      have s3 : Same (upd (upd H' l1 (.lst (someA.map V.str))) l2 (.lst (someB.map V.str))) (upd (upd (upd H' l1 (.lst (someA.map V.str))) l2 (.lst (someB.map V.str))) l3 (.lst (someA.map V.str ++ someB.map V.str))) := new_same hl3
      have i3 : (upd (upd (upd H' l1 (.lst (someA.map V.str))) l2 (.lst (someB.map V.str))) l3 (.lst (someA.map V.str ++ someB.map V.str))) l3 = some (.lst (someA.map V.str ++ someB.map V.str)) := upd_same
      refine ⟨_, rfl, (by show 9 ≤ sizeLine; decide), fun l4 hl4 => ?_⟩
      have s4 : Same (upd (upd (upd H' l1 (.lst (someA.map V.str))) l2 (.lst (someB.map V.str))) l3 (.lst (someA.map V.str ++ someB.map V.str))) (upd (upd (upd (upd H' l1 (.lst (someA.map V.str))) l2 (.lst (someB.map V.str))) l3 (.lst (someA.map V.str ++ someB.map V.str))) l4 (.lst (someC.map V.str))) := new_same hl4
      have i4 : (upd (upd (upd (upd H' l1 (.lst (someA.map V.str))) l2 (.lst (someB.map V.str))) l3 (.lst (someA.map V.str ++ someB.map V.str))) l4 (.lst (someC.map V.str))) l4 = some (.lst (someC.map V.str)) := upd_same
      refine ⟨l3, l4, someA.map V.str ++ someB.map V.str, someC.map V.str, rfl, rfl, s4 _ _ i3, i4, (by show 30 ≤ sizeLine; decide), fun l5 hl5 => ?_⟩
      have hI : (upd (upd (upd (upd (upd H' l1 (.lst (someA.map V.str))) l2 (.lst (someB.map V.str))) l3 (.lst (someA.map V.str ++ someB.map V.str))) l4 (.lst (someC.map V.str))) l5 (.lst ((someA.map V.str ++ someB.map V.str) ++ someC.map V.str))) l5 = some (.lst ((someA.map V.str ++ someB.map V.str) ++ someC.map V.str)) := upd_same
      have ths : ∀ y ∈ (someA.map V.str ++ someB.map V.str) ++ someC.map V.str, ∃ d, ∀ H : Hp, Th K H y d := fun y hy => by
        rw [← List.map_append, ← List.map_append] at hy
        obtain ⟨x, hx, rfl⟩ := List.mem_map.mp hy
        obtain ⟨h1, h2⟩ := some_ok x hx
        exact ⟨.str x, fun H => th_str h1 h2⟩
      refine ⟨_, rfl, l5, rfl, ⟨_, SqL.of hI⟩, fun D hD => lc_list (K := K) (a := l5) (xs := (someA.map V.str ++ someB.map V.str) ++ someC.map V.str) (fun j H2 => Bes D (upd (upd (upd (upd (upd H' l1 (.lst (someA.map V.str))) l2 (.lst (someB.map V.str))) l3 (.lst (someA.map V.str ++ someB.map V.str))) l4 (.lst (someC.map V.str))) l5 (.lst ((someA.map V.str ++ someB.map V.str) ++ someC.map V.str))) H2 ∧ H2 D = some (.lst [])) ⟨bes_start, upd_same⟩ ?_ ?_ ?_⟩
      · rintro j H2 _ ⟨b2, _⟩
        exact Same.seq (same_new hD b2) (SqL.of hI)
      · rintro j it H2 hit ⟨b2, l2⟩
        obtain ⟨d, th⟩ := ths it (List.mem_of_getElem? hit)
        refine ⟨rfl, _, rfl, it, d, rfl, th H2, fun H3 s3 => ⟨_, rfl, iteF ⟨fun b o n e => s3 _ _ (b2 b o n e), s3 _ _ l2⟩⟩⟩
      · rintro H2 ⟨b2, l2⟩
        refine ⟨Nat.zero_le _, fun q hq => ?_⟩
        refine ⟨_, _, .lst (SqL.of (new_same hq _ _ l2)) .nil, .lst (SqL.of upd_same) .nil, by decide, by decide, ?_⟩
        rw [eqv_nil]
        exact k _
end
end K90

namespace K90
open PySem L2 SmA SmM SX
/-! ### what the top has written, the head -/
theorem exm_self {K : PySem.W.Frag} {S : Addr} (h1 : PySem.W.subIn K (.ref S) (.type "BaseException") = some true) (h2 : PySem.W.isClsIn K S = true) (h3 : PySem.W.typeIn K (.ref S) = some (.type "type")) (h4 : PySem.W.subIn K (.ref S) (.ref S) = some true) :
    PySem.W.exmOne K (.ref S) (.ref S) = some true := by
  have e1 : (PySem.W.subIn K (.ref S) (.type "BaseException") == some true) = true := by rw [h1] <;> rfl
  have e2 : ((PySem.W.clsIn K S).isSome && PySem.W.typeIn K (.ref S) == some (.type "type")) = true := by
    have h2' : (PySem.W.clsIn K S).isSome = true := h2
    rw [h2', h3] <;> rfl
  show (if (PySem.W.subIn K (.ref S) (.type "BaseException") == some true) = true then (if ((PySem.W.clsIn K S).isSome && PySem.W.typeIn K (.ref S) == some (.type "type")) = true then PySem.W.subIn K (.ref S) (.ref S) else none) else none) = some true
  rw [if_pos e1, if_pos e2]
  exact h4
theorem all_mk {P : Program} {w : World} {K : PySem.W.Frag} {h : Heap} {mg : PySem.Str → Option Value} {fa C fI f0 f1 f2 f3 f4 f5 f6 f7 f8 f9 f10 f11 f12 f13 f14 f15 f16 f17 f18 f19 f20 f21 f22 : Addr} (X : K.In h) (G : h.Ns mainGlobals mg) (hfa : mg "law" = some (.ref fa))
    {nm q : PySem.Str} {N : Addr} {bs : List Value} {sn : List PySem.Str} {sub : List Value} {ab : Bool} {col : Option Bool} {dd : Option Addr} {m0 m1 m2 m3 m5 : Option Value} {tM tD : Tok}
    {odI anI : Option Addr} {slI : Array (Option Value)} {ocI dcI pmI cdI ctI : Value}
    {od0 an0 od1 an1 od2 an2 od3 an3 od4 an4 od5 an5 od6 an6 od7 an7 od8 an8 od9 an9 od10 an10 od11 an11 od12 an12 od13 an13 od14 an14 od15 an15 od16 an16 od17 an17 od18 an18 od19 an19 od20 an20 od21 an21 od22 an22 : Option Addr} {sl0 sl1 sl2 sl3 sl4 sl5 sl6 sl7 sl8 sl9 sl10 sl11 sl12 sl13 sl14 sl15 sl16 sl17 sl18 sl19 sl20 sl21 sl22 : Array (Option Value)} {oc0 kV0 dc0 pm0 cd0 ct0 oc1 kV1 dc1 pm1 cd1 ct1 oc2 kV2 dc2 pm2 cd2 ct2 oc3 kV3 dc3 pm3 cd3 ct3 oc4 kV4 dc4 pm4 cd4 ct4 oc5 kV5 dc5 pm5 cd5 ct5 oc6 kV6 dc6 pm6 cd6 ct6 oc7 kV7 dc7 pm7 cd7 ct7 oc8 kV8 dc8 pm8 cd8 ct8 oc9 kV9 dc9 pm9 cd9 ct9 oc10 kV10 dc10 pm10 cd10 ct10 oc11 kV11 dc11 pm11 cd11 ct11 oc12 kV12 dc12 pm12 cd12 ct12 oc13 kV13 dc13 pm13 cd13 ct13 oc14 kV14 dc14 pm14 cd14 ct14 oc15 kV15 dc15 pm15 cd15 ct15 oc16 kV16 dc16 pm16 cd16 ct16 oc17 kV17 dc17 pm17 cd17 ct17 oc18 kV18 dc18 pm18 cd18 ct18 oc19 kV19 dc19 pm19 cd19 ct19 oc20 kV20 dc20 pm20 cd20 ct20 oc21 kV21 dc21 pm21 cd21 ct21 oc22 kV22 dc22 pm22 cd22 ct22 : Value}
    (aC : PySem.W.nsIn K mainGlobals "ParseError" = some (some (.ref C)))
    (xL : K.lookup C = some (excClassObj nm q C N bs [.type "ValueError", .type "Exception", .type "BaseException", .type "object"] true sn sub ab col dd m0 m1 m2 m3 m5 "ValueError.__new__"))
    (sa : PySem.W.findIn K (.ref C) "__setattr__" = some (some (.builtin "object.__setattr__")))
    (ga : PySem.W.findIn K (.ref C) "__getattribute__" = some (some (.builtin "BaseException.__getattribute__")))
    (gg : PySem.W.findIn K (.ref C) "__getattr__" = some none)
    (nb : PySem.W.findIn K (.ref C) "value" = some none)
    (aI : PySem.W.findIn K (.ref C) "__init__" = some (some (.ref fI)))
    (tI : PySem.W.typeIn K (.ref fI) = some (.type "function"))
    (lI : K.lookup fI = some ⟨ocI, odI, .func (PySem.W.fnOf "__init__" "ParseError.__init__" (PySem.PeX.iA ⟨4, 17, 4, 21⟩ ⟨4, 23, 4, 28⟩) (PySem.PeX.iB ⟨5, 8, 5, 12⟩ ⟨5, 8, 5, 18⟩ ⟨5, 21, 5, 26⟩ ⟨5, 8, 5, 26⟩) PySem.PeX.iS .none .none dcI pmI anI cdI ctI), slI⟩)
    (cI : PySem.W.codeIn K cdI "ParseError.__init__" = true)
    (kC : PySem.W.keepIn K (.ref C) = true)
    (eC : PySem.W.subIn K (.ref C) (.type "BaseException") = some true)
    (tC : PySem.W.typeIn K (.ref C) = some (.type "type"))
    (hC : PySem.W.hasDictIn K C = true)
    (iC : PySem.W.isClsIn K C = true)
    (sC : PySem.W.subIn K (.ref C) (.ref C) = some true)
    (xha : PySem.W.findIn K (.ref C) "__class__" = some (some (.builtin "object.__class__")))
    (xhn : PySem.W.specialIn K (.builtin "object.__class__") "__get__" = some (some (.builtin "getset_descriptor.__get__")))
    (xht : PySem.W.takesIn K (.builtin "object.__class__") = some true)
    (xhm : PySem.W.mroIn K C (.type "object") = some true)
    (xv : PySem.W.kitOne K (.ref C) (.type "ValueError") = some true)
    (zV : PySem.W.nsIn K mainGlobals "ValueError" = some none)
    (z_list : PySem.W.nsIn K mainGlobals "list" = some none)
    (z_len : PySem.W.nsIn K mainGlobals "len" = some none)
    (z_abs : PySem.W.nsIn K mainGlobals "abs" = some none)
    (z_range : PySem.W.nsIn K mainGlobals "range" = some none)
    (z_tuple : PySem.W.nsIn K mainGlobals "tuple" = some none)
    (z_str : PySem.W.nsIn K mainGlobals "str" = some none)
    (z_int : PySem.W.nsIn K mainGlobals "int" = some none)
    (z_repr : PySem.W.nsIn K mainGlobals "repr" = some none)
    (z_isinstance : PySem.W.nsIn K mainGlobals "isinstance" = some none)
    (z_all : PySem.W.nsIn K mainGlobals "all" = some none)
    (zdig : PySem.W.nsIn K cStatics "sys.int_max_str_digits" = some none)
    (mM : PySem.W.nsIn K mainGlobals "MAX_DIGITS" = some (some (.int 1000 tM)))
    (mD : PySem.W.nsIn K mainGlobals "DIGITS" = some (some (.str "0123456789" tD)))
    (a0 : PySem.W.nsIn K mainGlobals "gcd" = some (some (.ref f0)))
    (l0 : K.lookup f0 = some ⟨oc0, od0, .func (PySem.W.fnOf "gcd" "gcd" (defArgs st_gcd) (defBody st_gcd) (defScope st_gcd) .none kV0 dc0 pm0 an0 cd0 ct0), sl0⟩)
    (c0 : PySem.W.codeIn K cd0 "gcd" = true)
    (k0 : PySem.W.keepIn K (.ref f0) = true)
    (a1 : PySem.W.nsIn K mainGlobals "reduced" = some (some (.ref f1)))
    (l1 : K.lookup f1 = some ⟨oc1, od1, .func (PySem.W.fnOf "reduced" "reduced" (defArgs st_reduced) (defBody st_reduced) (defScope st_reduced) .none kV1 dc1 pm1 an1 cd1 ct1), sl1⟩)
    (c1 : PySem.W.codeIn K cd1 "reduced" = true)
    (k1 : PySem.W.keepIn K (.ref f1) = true)
    (a2 : PySem.W.nsIn K mainGlobals "integer_in" = some (some (.ref f2)))
    (l2 : K.lookup f2 = some ⟨oc2, od2, .func (PySem.W.fnOf "integer_in" "integer_in" (defArgs st_int) (defBody st_int) (defScope st_int) .none kV2 dc2 pm2 an2 cd2 ct2), sl2⟩)
    (c2 : PySem.W.codeIn K cd2 "integer_in" = true)
    (k2 : PySem.W.keepIn K (.ref f2) = true)
    (a3 : PySem.W.nsIn K mainGlobals "pair_in" = some (some (.ref f3)))
    (l3 : K.lookup f3 = some ⟨oc3, od3, .func (PySem.W.fnOf "pair_in" "pair_in" (defArgs st_pair) (defBody st_pair) (defScope st_pair) .none kV3 dc3 pm3 an3 cd3 ct3), sl3⟩)
    (c3 : PySem.W.codeIn K cd3 "pair_in" = true)
    (k3 : PySem.W.keepIn K (.ref f3) = true)
    (a4 : PySem.W.nsIn K mainGlobals "format_fraction" = some (some (.ref f4)))
    (l4 : K.lookup f4 = some ⟨oc4, od4, .func (PySem.W.fnOf "format_fraction" "format_fraction" (defArgs st_fmtF) (defBody st_fmtF) (defScope st_fmtF) .none kV4 dc4 pm4 an4 cd4 ct4), sl4⟩)
    (c4 : PySem.W.codeIn K cd4 "format_fraction" = true)
    (k4 : PySem.W.keepIn K (.ref f4) = true)
    (a5 : PySem.W.nsIn K mainGlobals "format_chain" = some (some (.ref f5)))
    (l5 : K.lookup f5 = some ⟨oc5, od5, .func (PySem.W.fnOf "format_chain" "format_chain" (defArgs st_format_chain) (defBody st_format_chain) (defScope st_format_chain) .none kV5 dc5 pm5 an5 cd5 ct5), sl5⟩)
    (c5 : PySem.W.codeIn K cd5 "format_chain" = true)
    (k5 : PySem.W.keepIn K (.ref f5) = true)
    (a6 : PySem.W.nsIn K mainGlobals "parse_fraction" = some (some (.ref f6)))
    (l6 : K.lookup f6 = some ⟨oc6, od6, .func (PySem.W.fnOf "parse_fraction" "parse_fraction" (defArgs st_pf) (defBody st_pf) (defScope st_pf) .none kV6 dc6 pm6 an6 cd6 ct6), sl6⟩)
    (c6 : PySem.W.codeIn K cd6 "parse_fraction" = true)
    (k6 : PySem.W.keepIn K (.ref f6) = true)
    (a7 : PySem.W.nsIn K mainGlobals "parse_chain" = some (some (.ref f7)))
    (l7 : K.lookup f7 = some ⟨oc7, od7, .func (PySem.W.fnOf "parse_chain" "parse_chain" (defArgs st_parse_chain) (defBody st_parse_chain) (defScope st_parse_chain) .none kV7 dc7 pm7 an7 cd7 ct7), sl7⟩)
    (c7 : PySem.W.codeIn K cd7 "parse_chain" = true)
    (k7 : PySem.W.keepIn K (.ref f7) = true)
    (a8 : PySem.W.nsIn K mainGlobals "_law_pen" = some (some (.ref f8)))
    (l8 : K.lookup f8 = some ⟨oc8, od8, .func (PySem.W.fnOf "_law_pen" "_law_pen" (defArgs st_pen) (defBody st_pen) (defScope st_pen) .none kV8 dc8 pm8 an8 cd8 ct8), sl8⟩)
    (c8 : PySem.W.codeIn K cd8 "_law_pen" = true)
    (k8 : PySem.W.keepIn K (.ref f8) = true)
    (a9 : PySem.W.nsIn K mainGlobals "_law_draw" = some (some (.ref f9)))
    (l9 : K.lookup f9 = some ⟨oc9, od9, .func (PySem.W.fnOf "_law_draw" "_law_draw" (defArgs st_draw) (defBody st_draw) (defScope st_draw) .none kV9 dc9 pm9 an9 cd9 ct9), sl9⟩)
    (c9 : PySem.W.codeIn K cd9 "_law_draw" = true)
    (k9 : PySem.W.keepIn K (.ref f9) = true)
    (a10 : PySem.W.nsIn K mainGlobals "_law_pick" = some (some (.ref f10)))
    (l10 : K.lookup f10 = some ⟨oc10, od10, .func (PySem.W.fnOf "_law_pick" "_law_pick" (defArgs st_pick) (defBody st_pick) (defScope st_pick) .none kV10 dc10 pm10 an10 cd10 ct10), sl10⟩)
    (c10 : PySem.W.codeIn K cd10 "_law_pick" = true)
    (k10 : PySem.W.keepIn K (.ref f10) = true)
    (a11 : PySem.W.nsIn K mainGlobals "_law_great" = some (some (.ref f11)))
    (l11 : K.lookup f11 = some ⟨oc11, od11, .func (PySem.W.fnOf "_law_great" "_law_great" (defArgs st_great) (defBody st_great) (defScope st_great) .none kV11 dc11 pm11 an11 cd11 ct11), sl11⟩)
    (c11 : PySem.W.codeIn K cd11 "_law_great" = true)
    (k11 : PySem.W.keepIn K (.ref f11) = true)
    (a12 : PySem.W.nsIn K mainGlobals "_law_gcd" = some (some (.ref f12)))
    (l12 : K.lookup f12 = some ⟨oc12, od12, .func (PySem.W.fnOf "_law_gcd" "_law_gcd" (defArgs st__law_gcd) (defBody st__law_gcd) (defScope st__law_gcd) .none kV12 dc12 pm12 an12 cd12 ct12), sl12⟩)
    (c12 : PySem.W.codeIn K cd12 "_law_gcd" = true)
    (k12 : PySem.W.keepIn K (.ref f12) = true)
    (a13 : PySem.W.nsIn K mainGlobals "_law_fraction" = some (some (.ref f13)))
    (l13 : K.lookup f13 = some ⟨oc13, od13, .func (PySem.W.fnOf "_law_fraction" "_law_fraction" (defArgs st__law_fraction) (defBody st__law_fraction) (defScope st__law_fraction) .none kV13 dc13 pm13 an13 cd13 ct13), sl13⟩)
    (c13 : PySem.W.codeIn K cd13 "_law_fraction" = true)
    (k13 : PySem.W.keepIn K (.ref f13) = true)
    (a14 : PySem.W.nsIn K mainGlobals "_law_anything" = some (some (.ref f14)))
    (l14 : K.lookup f14 = some ⟨oc14, od14, .func (PySem.W.fnOf "_law_anything" "_law_anything" (defArgs st__law_anything) (defBody st__law_anything) (defScope st__law_anything) .none kV14 dc14 pm14 an14 cd14 ct14), sl14⟩)
    (c14 : PySem.W.codeIn K cd14 "_law_anything" = true)
    (k14 : PySem.W.keepIn K (.ref f14) = true)
    (a15 : PySem.W.nsIn K mainGlobals "_law_int_in" = some (some (.ref f15)))
    (l15 : K.lookup f15 = some ⟨oc15, od15, .func (PySem.W.fnOf "_law_int_in" "_law_int_in" (defArgs st_lint) (defBody st_lint) (defScope st_lint) .none kV15 dc15 pm15 an15 cd15 ct15), sl15⟩)
    (c15 : PySem.W.codeIn K cd15 "_law_int_in" = true)
    (k15 : PySem.W.keepIn K (.ref f15) = true)
    (a16 : PySem.W.nsIn K mainGlobals "_law_pair_in" = some (some (.ref f16)))
    (l16 : K.lookup f16 = some ⟨oc16, od16, .func (PySem.W.fnOf "_law_pair_in" "_law_pair_in" (defArgs st_lpair) (defBody st_lpair) (defScope st_lpair) .none kV16 dc16 pm16 an16 cd16 ct16), sl16⟩)
    (c16 : PySem.W.codeIn K cd16 "_law_pair_in" = true)
    (k16 : PySem.W.keepIn K (.ref f16) = true)
    (a17 : PySem.W.nsIn K mainGlobals "_law_bent_text" = some (some (.ref f17)))
    (l17 : K.lookup f17 = some ⟨oc17, od17, .func (PySem.W.fnOf "_law_bent_text" "_law_bent_text" (defArgs st_bent) (defBody st_bent) (defScope st_bent) .none kV17 dc17 pm17 an17 cd17 ct17), sl17⟩)
    (c17 : PySem.W.codeIn K cd17 "_law_bent_text" = true)
    (k17 : PySem.W.keepIn K (.ref f17) = true)
    (a18 : PySem.W.nsIn K mainGlobals "_law_fraction_in" = some (some (.ref f18)))
    (l18 : K.lookup f18 = some ⟨oc18, od18, .func (PySem.W.fnOf "_law_fraction_in" "_law_fraction_in" (defArgs st_lfrac) (defBody st_lfrac) (defScope st_lfrac) .none kV18 dc18 pm18 an18 cd18 ct18), sl18⟩)
    (c18 : PySem.W.codeIn K cd18 "_law_fraction_in" = true)
    (k18 : PySem.W.keepIn K (.ref f18) = true)
    (a19 : PySem.W.nsIn K mainGlobals "_law_chain_in" = some (some (.ref f19)))
    (l19 : K.lookup f19 = some ⟨oc19, od19, .func (PySem.W.fnOf "_law_chain_in" "_law_chain_in" (defArgs st__law_chain_in) (defBody st__law_chain_in) (defScope st__law_chain_in) .none kV19 dc19 pm19 an19 cd19 ct19), sl19⟩)
    (c19 : PySem.W.codeIn K cd19 "_law_chain_in" = true)
    (k19 : PySem.W.keepIn K (.ref f19) = true)
    (a20 : PySem.W.nsIn K mainGlobals "_law_read" = some (some (.ref f20)))
    (l20 : K.lookup f20 = some ⟨oc20, od20, .func (PySem.W.fnOf "_law_read" "_law_read" (defArgs st_read) (defBody st_read) (defScope st_read) .none kV20 dc20 pm20 an20 cd20 ct20), sl20⟩)
    (c20 : PySem.W.codeIn K cd20 "_law_read" = true)
    (k20 : PySem.W.keepIn K (.ref f20) = true)
    (a21 : PySem.W.nsIn K mainGlobals "_law_decides" = some (some (.ref f21)))
    (l21 : K.lookup f21 = some ⟨oc21, od21, .func (PySem.W.fnOf "_law_decides" "_law_decides" (defArgs st_dec) (defBody st_dec) (defScope st_dec) .none kV21 dc21 pm21 an21 cd21 ct21), sl21⟩)
    (c21 : PySem.W.codeIn K cd21 "_law_decides" = true)
    (k21 : PySem.W.keepIn K (.ref f21) = true)
    (a22 : PySem.W.nsIn K mainGlobals "law" = some (some (.ref f22)))
    (l22 : K.lookup f22 = some ⟨oc22, od22, .func (PySem.W.fnOf "law" "law" (defArgs st_law) (defBody st_law) (defScope st_law) .none kV22 dc22 pm22 an22 cd22 ct22), sl22⟩)
    (c22 : PySem.W.codeIn K cd22 "law" = true)
    (k22 : PySem.W.keepIn K (.ref f22) = true)
    : ∃ fd : FuncData, (∀ (s : Shared) (u : Value), BindsTo s fd ⟨[u], []⟩ [("script", u)]) ∧ ∀ base : Heap, K.In base → base.Ns mainGlobals mg → SmA.SysB base → SmA.FnG P w K mg base CX0 6 fa fd ["script"] (spLaw K) := by
  have e := hfa.symm.trans (PySem.W.mg_of X G a22)
  cases e
  have pe : PySem.PeX.PeTxt K mg C fI :=
    { gC := PySem.W.mg_of X G aC, cls := ⟨nm, q, N, bs, _, sn, sub, ab, col, dd, m0, m1, m2, m3, m5, xL, by decide +kernel⟩, sa := sa, ga := ga, gg := gg, noN := nb, iC := aI, tC := tI, kC := kC, exC := eC, tyC := tC, hdC := hC, te := exm_self eC iC tC sC,
      fn := ⟨_, _, _, _, _, _, _, _, _, _, _, _, _, _, lI, cI⟩ }
  have er : ErrT K mg C fI := ⟨pe, ⟨ga, gg, eC, hC, xha, xhn, xht, xhm⟩, ⟨ga, gg, eC, hC⟩, PySem.W.mg_none_of X G zV, xv⟩
  have cM : ∃ t, mg "MAX_DIGITS" = some (.int 1000 t) := ⟨tM, PySem.W.mg_of X G mM⟩
  have cD : ∃ t, mg "DIGITS" = some (.str (PySem.Str.ofString "0123456789") t) := ⟨tD, PySem.W.mg_of X G mD⟩
  have F0 := fun_mk (st := st_gcd) l0 c0 k0
  have A0 : At K mg "gcd" st_gcd ["first", "second"] f0 := ⟨_, F0, PySem.W.mg_of X G a0, F0.binds fun _ _ _ _ _ _ us hl => match us, hl with | [_, _], _ => rfl⟩
  have F1 := fun_mk (st := st_reduced) l1 c1 k1
  have A1 : At K mg "reduced" st_reduced ["numerator", "denominator"] f1 := ⟨_, F1, PySem.W.mg_of X G a1, F1.binds fun _ _ _ _ _ _ us hl => match us, hl with | [_, _], _ => rfl⟩
  have F2 := fun_mk (st := st_int) l2 c2 k2
  have A2 : At K mg "integer_in" st_int ["text"] f2 := ⟨_, F2, PySem.W.mg_of X G a2, F2.binds fun _ _ _ _ _ _ us hl => match us, hl with | [_], _ => rfl⟩
  have F3 := fun_mk (st := st_pair) l3 c3 k3
  have A3 : At K mg "pair_in" st_pair ["text", "sign"] f3 := ⟨_, F3, PySem.W.mg_of X G a3, F3.binds fun _ _ _ _ _ _ us hl => match us, hl with | [_, _], _ => rfl⟩
  have F4 := fun_mk (st := st_fmtF) l4 c4 k4
  have A4 : At K mg "format_fraction" st_fmtF ["fraction"] f4 := ⟨_, F4, PySem.W.mg_of X G a4, F4.binds fun _ _ _ _ _ _ us hl => match us, hl with | [_], _ => rfl⟩
  have F5 := fun_mk (st := st_format_chain) l5 c5 k5
  have A5 : At K mg "format_chain" st_format_chain ["chain"] f5 := ⟨_, F5, PySem.W.mg_of X G a5, F5.binds fun _ _ _ _ _ _ us hl => match us, hl with | [_], _ => rfl⟩
  have F6 := fun_mk (st := st_pf) l6 c6 k6
  have A6 : At K mg "parse_fraction" st_pf ["text"] f6 := ⟨_, F6, PySem.W.mg_of X G a6, F6.binds fun _ _ _ _ _ _ us hl => match us, hl with | [_], _ => rfl⟩
  have F7 := fun_mk (st := st_parse_chain) l7 c7 k7
  have A7 : At K mg "parse_chain" st_parse_chain ["text"] f7 := ⟨_, F7, PySem.W.mg_of X G a7, F7.binds fun _ _ _ _ _ _ us hl => match us, hl with | [_], _ => rfl⟩
  have F8 := fun_mk (st := st_pen) l8 c8 k8
  have A8 : At K mg "_law_pen" st_pen ["script"] f8 := ⟨_, F8, PySem.W.mg_of X G a8, F8.binds fun _ _ _ _ _ _ us hl => match us, hl with | [_], _ => rfl⟩
  have F9 := fun_mk (st := st_draw) l9 c9 k9
  have A9 : At K mg "_law_draw" st_draw ["pen", "many"] f9 := ⟨_, F9, PySem.W.mg_of X G a9, F9.binds fun _ _ _ _ _ _ us hl => match us, hl with | [_, _], _ => rfl⟩
  have F10 := fun_mk (st := st_pick) l10 c10 k10
  have A10 : At K mg "_law_pick" st_pick ["pen", "options"] f10 := ⟨_, F10, PySem.W.mg_of X G a10, F10.binds fun _ _ _ _ _ _ us hl => match us, hl with | [_, _], _ => rfl⟩
  have F11 := fun_mk (st := st_great) l11 c11 k11
  have A11 : At K mg "_law_great" st_great ["pen", "figures"] f11 := ⟨_, F11, PySem.W.mg_of X G a11, F11.binds fun _ _ _ _ _ _ us hl => match us, hl with | [_, _], _ => rfl⟩
  have F12 := fun_mk (st := st__law_gcd) l12 c12 k12
  have A12 : At K mg "_law_gcd" st__law_gcd ["one", "two"] f12 := ⟨_, F12, PySem.W.mg_of X G a12, F12.binds fun _ _ _ _ _ _ us hl => match us, hl with | [_, _], _ => rfl⟩
  have F13 := fun_mk (st := st__law_fraction) l13 c13 k13
  have A13 : At K mg "_law_fraction" st__law_fraction ["numerator", "denominator"] f13 := ⟨_, F13, PySem.W.mg_of X G a13, F13.binds fun _ _ _ _ _ _ us hl => match us, hl with | [_, _], _ => rfl⟩
  have F14 := fun_mk (st := st__law_anything) l14 c14 k14
  have A14 : At K mg "_law_anything" st__law_anything ["pen", "deep"] f14 := ⟨_, F14, PySem.W.mg_of X G a14, F14.binds fun _ _ _ _ _ _ us hl => match us, hl with | [_, _], _ => rfl⟩
  have F15 := fun_mk (st := st_lint) l15 c15 k15
  have A15 : At K mg "_law_int_in" st_lint ["text"] f15 := ⟨_, F15, PySem.W.mg_of X G a15, F15.binds fun _ _ _ _ _ _ us hl => match us, hl with | [_], _ => rfl⟩
  have F16 := fun_mk (st := st_lpair) l16 c16 k16
  have A16 : At K mg "_law_pair_in" st_lpair ["text", "sign"] f16 := ⟨_, F16, PySem.W.mg_of X G a16, F16.binds fun _ _ _ _ _ _ us hl => match us, hl with | [_, _], _ => rfl⟩
  have F17 := fun_mk (st := st_bent) l17 c17 k17
  have A17 : At K mg "_law_bent_text" st_bent ["pen", "text"] f17 := ⟨_, F17, PySem.W.mg_of X G a17, F17.binds fun _ _ _ _ _ _ us hl => match us, hl with | [_, _], _ => rfl⟩
  have F18 := fun_mk (st := st_lfrac) l18 c18 k18
  have A18 : At K mg "_law_fraction_in" st_lfrac ["thing"] f18 := ⟨_, F18, PySem.W.mg_of X G a18, F18.binds fun _ _ _ _ _ _ us hl => match us, hl with | [_], _ => rfl⟩
  have F19 := fun_mk (st := st__law_chain_in) l19 c19 k19
  have A19 : At K mg "_law_chain_in" st__law_chain_in ["thing"] f19 := ⟨_, F19, PySem.W.mg_of X G a19, F19.binds fun _ _ _ _ _ _ us hl => match us, hl with | [_], _ => rfl⟩
  have F20 := fun_mk (st := st_read) l20 c20 k20
  have A20 : At K mg "_law_read" st_read ["parse", "thing"] f20 := ⟨_, F20, PySem.W.mg_of X G a20, F20.binds fun _ _ _ _ _ _ us hl => match us, hl with | [_, _], _ => rfl⟩
  have F21 := fun_mk (st := st_dec) l21 c21 k21
  have A21 : At K mg "_law_decides" st_dec ["thing"] f21 := ⟨_, F21, PySem.W.mg_of X G a21, F21.binds fun _ _ _ _ _ _ us hl => match us, hl with | [_], _ => rfl⟩
  have F22 := fun_mk (st := st_law) l22 c22 k22
  refine ⟨PySem.W.fnOf "law" "law" (defArgs st_law) (defBody st_law) (defScope st_law) .none kV22 dc22 pm22 an22 cd22 ct22, fun s v => .of_eq rfl, fun base _ _ zsys => ?_⟩
  have T : Nm K mg base := ⟨PySem.W.mg_none_of X G z_list, PySem.W.mg_none_of X G z_len, PySem.W.mg_none_of X G z_abs, PySem.W.mg_none_of X G z_range, PySem.W.mg_none_of X G z_tuple, PySem.W.mg_none_of X G z_str, PySem.W.mg_none_of X G z_int, PySem.W.mg_none_of X G z_repr, PySem.W.mg_none_of X G z_isinstance, PySem.W.mg_none_of X G z_all, zdig, zsys⟩
  have dpen : Df P w K mg base CX0 1 "_law_pen" f8 (spPen K) := ok_pen A8 T
  have ddraw : Df P w K mg base CX0 1 "_law_draw" f9 (spDraw K) := ok_draw A9 T
  have dpick : Df P w K mg base CX0 2 "_law_pick" f10 (spPick K) := ok_pick A10 T ddraw
  have dpickS : Df P w K mg base CX0 2 "_law_pick" f10 (spPickS K) := ok_pickS A10 T ddraw
  have dgreat : Df P w K mg base CX0 2 "_law_great" f11 (spGreat K) := ok_great A11 T ddraw
  have dgcd : Df P w K mg base CX0 1 "gcd" f0 spGcd := ok_gcd A0 T
  have dlgcd : Df P w K mg base CX0 1 "_law_gcd" f12 spGcd := ok__law_gcd A12 T
  have dred : Df P w K mg base CX0 2 "reduced" f1 spFrac := ok_reduced A1 dgcd
  have dlfr : Df P w K mg base CX0 2 "_law_fraction" f13 spFrac := ok__law_fraction A13 dlgcd
  have dint : Df P w K mg base CX0 1 "integer_in" f2 spInt := ok_int A2 T cM cD
  have dlint : Df P w K mg base CX0 1 "_law_int_in" f15 spInt := ok_lint A15 T
  have dpair : Df P w K mg base CX0 2 "pair_in" f3 spPair := ok_pair A3 dint
  have dlpair : Df P w K mg base CX0 2 "_law_pair_in" f16 spPair := ok_lpair A16 T dlint
  have dfF : Df P w K mg base CX0 1 "format_fraction" f4 (spFmtF K) := ok_fmtF A4
  have dfC : Df P w K mg base CX0 1 "format_chain" f5 (spFmtC K) := ok_fmtC A5 T
  have dlF : Df P w K mg base CX0 3 "_law_fraction_in" f18 (spLF K) := ok_lfrac A18 T dlpair dlfr
  have dlC : Df P w K mg base CX0 2 "_law_chain_in" f19 (spLC K) := ok__law_chain_in (C := C) (fI := fI) A19 T dlint
  have dpF : Df P w K mg base (L2.CX P w) 3 "parse_fraction" f6 (spPF K C) := ok_pf A6 T pe dpair dred
  have dpC : Df P w K mg base (L2.CX P w) 2 "parse_chain" f7 (spPC K C) := ok_parse_chain A7 T pe dint
  have dread : DfG P w K mg base CX0 4 "_law_read" f20 (spRead K f6 f7) := ok_read A20 T er dpF dpC
  have ddec : DfG P w K mg base CX0 5 "_law_decides" f21 (spDec K) := ok_dec A21 T (PySem.W.mg_of X G a6) (PySem.W.mg_of X G a7) dlF dlC dread
  have dany0 : Df P w K mg base CX0 1 "_law_anything" f14 (spA K 0) := ok_any0 A14
  have dany1 : Df P w K mg base CX0 2 "_law_anything" f14 (spA K 1) := ok_any (by decide) A14 T ddraw dany0
  have dany2 : Df P w K mg base CX0 3 "_law_anything" f14 (spA K 2) := ok_any (by decide) A14 T ddraw dany1
  have dany3 : Df P w K mg base CX0 4 "_law_anything" f14 (spA K 3) := ok_any (by decide) A14 T ddraw dany2
  have dbent : Df P w K mg base CX0 3 "_law_bent_text" f17 (spBent K) := ok_bent A17 T ddraw dpick dpickS
  exact ok_law F22 T dpen ddraw dpick dgreat dlfr dfF dfC dpF dpC dbent dany3 ddec

end K90

open PySem PySem.W PyProof.Rows in
set_option maxRecDepth 100000 in
set_option maxHeartbeats 0 in
theorem PySem.Challenge.cw_stepmaps_k90_fractions_and_chains_as_tex_holds : PySem.Challenge.rw_stepmaps_k90_fractions_and_chains_as_tex.Holds := by
  w_on; o_law; k_head; (case hw => w_witness2)
  k_fill
  refine SmA.walk_quiet (l := PySem.Challenge.rw_stepmaps_k90_fractions_and_chains_as_tex) (n := 63) (k := 6) (x := "script") (cx := fun _ => L2.CX0) (sp := fun w => K90.spLaw _) (by decide +kernel) rfl (by decide) rfl ⟨rfl, by decide, by decide⟩ (fun w h Y => PySem.W.kIn_of Y) ?F (fun _ _ a ns _ _ hS => ⟨a, ns, rfl, hS, fun _ => rfl⟩) (fun _ _ _ _ _ z => z)
  case F =>
    intro w mg fa h KX G hmg
    refine' K90.all_mk KX G hmg ?aC ?xL ?sa ?ga ?gg ?nb ?aI ?tI ?lI ?cI ?kC ?eC ?tC ?hC ?iC ?sC ?xha ?xhn ?xht ?xhm ?xv ?zV ?z_list ?z_len ?z_abs ?z_range ?z_tuple ?z_str ?z_int ?z_repr ?z_isinstance ?z_all ?zdig ?mM ?mD ?a0 ?l0 ?c0 ?k0 ?a1 ?l1 ?c1 ?k1 ?a2 ?l2 ?c2 ?k2 ?a3 ?l3 ?c3 ?k3 ?a4 ?l4 ?c4 ?k4 ?a5 ?l5 ?c5 ?k5 ?a6 ?l6 ?c6 ?k6 ?a7 ?l7 ?c7 ?k7 ?a8 ?l8 ?c8 ?k8 ?a9 ?l9 ?c9 ?k9 ?a10 ?l10 ?c10 ?k10 ?a11 ?l11 ?c11 ?k11 ?a12 ?l12 ?c12 ?k12 ?a13 ?l13 ?c13 ?k13 ?a14 ?l14 ?c14 ?k14 ?a15 ?l15 ?c15 ?k15 ?a16 ?l16 ?c16 ?k16 ?a17 ?l17 ?c17 ?k17 ?a18 ?l18 ?c18 ?k18 ?a19 ?l19 ?c19 ?k19 ?a20 ?l20 ?c20 ?k20 ?a21 ?l21 ?c21 ?k21 ?a22 ?l22 ?c22 ?k22
    (case aC => k_is)
    (case xL => k_is)
    (case sa => k_is)
    (case ga => k_is)
    (case gg => k_is)
    (case nb => k_is)
    (case aI => k_is)
    (case tI => k_is)
    (case lI => k_is)
    (case cI => k_is)
    (case kC => k_is)
    (case eC => k_is)
    (case tC => k_is)
    (case hC => k_is)
    (case iC => k_is)
    (case sC => first | rfl | k_is)
    (case xha => k_is)
    (case xhn => k_is)
    (case xht => k_is)
    (case xhm => k_is)
    (case xv => first | rfl | k_is)
    (case zV => k_is)
    (case z_list => k_is)
    (case z_len => k_is)
    (case z_abs => k_is)
    (case z_range => k_is)
    (case z_tuple => k_is)
    (case z_str => k_is)
    (case z_int => k_is)
    (case z_repr => k_is)
    (case z_isinstance => k_is)
    (case z_all => k_is)
    (case zdig => k_is)
    (case mM => k_is)
    (case mD => k_is)
    (case a0 => k_is)
    (case l0 => k_is)
    (case c0 => k_is)
    (case k0 => k_is)
    (case a1 => k_is)
    (case l1 => k_is)
    (case c1 => k_is)
    (case k1 => k_is)
    (case a2 => k_is)
    (case l2 => k_is)
    (case c2 => k_is)
    (case k2 => k_is)
    (case a3 => k_is)
    (case l3 => k_is)
    (case c3 => k_is)
    (case k3 => k_is)
    (case a4 => k_is)
    (case l4 => k_is)
    (case c4 => k_is)
    (case k4 => k_is)
    (case a5 => k_is)
    (case l5 => k_is)
    (case c5 => k_is)
    (case k5 => k_is)
    (case a6 => k_is)
    (case l6 => k_is)
    (case c6 => k_is)
    (case k6 => k_is)
    (case a7 => k_is)
    (case l7 => k_is)
    (case c7 => k_is)
    (case k7 => k_is)
    (case a8 => k_is)
    (case l8 => k_is)
    (case c8 => k_is)
    (case k8 => k_is)
    (case a9 => k_is)
    (case l9 => k_is)
    (case c9 => k_is)
    (case k9 => k_is)
    (case a10 => k_is)
    (case l10 => k_is)
    (case c10 => k_is)
    (case k10 => k_is)
    (case a11 => k_is)
    (case l11 => k_is)
    (case c11 => k_is)
    (case k11 => k_is)
    (case a12 => k_is)
    (case l12 => k_is)
    (case c12 => k_is)
    (case k12 => k_is)
    (case a13 => k_is)
    (case l13 => k_is)
    (case c13 => k_is)
    (case k13 => k_is)
    (case a14 => k_is)
    (case l14 => k_is)
    (case c14 => k_is)
    (case k14 => k_is)
    (case a15 => k_is)
    (case l15 => k_is)
    (case c15 => k_is)
    (case k15 => k_is)
    (case a16 => k_is)
    (case l16 => k_is)
    (case c16 => k_is)
    (case k16 => k_is)
    (case a17 => k_is)
    (case l17 => k_is)
    (case c17 => k_is)
    (case k17 => k_is)
    (case a18 => k_is)
    (case l18 => k_is)
    (case c18 => k_is)
    (case k18 => k_is)
    (case a19 => k_is)
    (case l19 => k_is)
    (case c19 => k_is)
    (case k19 => k_is)
    (case a20 => k_is)
    (case l20 => k_is)
    (case c20 => k_is)
    (case k20 => k_is)
    (case a21 => k_is)
    (case l21 => k_is)
    (case c21 => k_is)
    (case k21 => k_is)
    (case a22 => k_is)
    (case l22 => k_is)
    (case c22 => k_is)
    (case k22 => k_is)
#print axioms PySem.Challenge.cw_stepmaps_k90_fractions_and_chains_as_tex_holds
