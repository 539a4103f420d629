import PyProof.Rows.All
import Wide.All
import OpenK.AllK
import Wide.FinOn
import PySem.Challenge.RW_pq0219_01
open PySem PySem.W PySem.Calls PyProof.Rows
set_option Elab.async false
set_option maxRecDepth 100000
set_option maxHeartbeats 8000000
set_option linter.unusedVariables false
set_option compiler.extract_closed false
namespace Mine
open_top hd for PySem.Challenge.rw_pq0219_01
end Mine
namespace Mine

abbrev PG : Program := PySem.Challenge.pw_pq0219_01
abbrev View := Addr → Option Obj
structure Grow (v0 : View) (h0 : Heap) (v : View) (h : Heap) : Prop where
  ext : ∀ b o, h0.get? b = some o → h.get? b = some o
  sub : ∀ b o, v0 b = some o → v b = some o
  le : ∀ b o, v b = some o → h.get? b = some o
  hid : ∀ b, v0 b = none → h0.get? b ≠ none → v b = none

theorem Grow.refl {v : View} {h : Heap} (hv : ∀ b o, v b = some o → h.get? b = some o) : Grow v h v h :=
  ⟨fun _ _ e => e, fun _ _ e => e, hv, fun _ e _ => e⟩
theorem Grow.trans {v0 v1 v2 : View} {h0 h1 h2 : Heap} (a : Grow v0 h0 v1 h1) (b : Grow v1 h1 v2 h2) : Grow v0 h0 v2 h2 :=
  ⟨fun x o e => b.ext x o (a.ext x o e), fun x o e => b.sub x o (a.sub x o e), b.le, fun x e n => by
    refine b.hid x (a.hid x e n) ?_
    cases q : h0.get? x with
    | none => exact absurd q n
    | some o => rw [a.ext x o q]; exact fun z => nomatch z⟩

structure St (v0 : View) (h0 : Heap) (v : View) (L : Addr) (h : Heap) (m : Str → Option Value) (mu : List (Addr × Obj)) : Prop where
  gr : Grow v0 h0 v h
  ns : h.Ns L m
  newL : h0.get? L = none
  hidL : v L = none
  mus : ∀ p ∈ mu, h.get? p.1 = some p.2 ∧ p.1 ≠ L ∧ h0.get? p.1 = none ∧ v p.1 = none
  nd : (mu.map Prod.fst).Nodup

structure Gl (w : World) (h : Heap) : Prop where
  K : (hd.heap_39 w.params).In h
  T : ∃ mean mg mb, Top hd.view_39 (looseW hd.view_39 []) mean mg mb h
theorem Gl.keeps {w : World} {h h' : Heap} (g : Gl w h) (k : ∀ b o, h.get? b = some o → h'.get? b = some o) : Gl w h' := by
  obtain ⟨K, mean, mg, mb, T⟩ := g
  exact ⟨K.keeps k, mean, mg, mb, T.keeps k⟩

structure Am (A : Around) (n : Nat) : Prop where
  hd : A.handled = none
  fr : ∃ l, A.frames = some l
  dp : A.depth + n < 800
  un : A.units + 10 * n < 5000
  py : ∀ (w : World) (s : Shared), Gl w s.heap → PylongRoom (model PG w) A s

theorem Am.deeper {A : Around} {n : Nat} (a : Am A (n + 1)) (env : Env) (h1 : env.scope.isGenerator = false) (h2 : env.scope.isCoroutine = false) (h3 : env.builtins = builtinsNs) (h4 : env.globals = mainGlobals) : Am (A.deeper env) n := by
  obtain ⟨l, hl⟩ := a.fr
  refine ⟨a.hd, ⟨env :: l, ?_⟩, ?_, ?_, ?_⟩
  · exact PySem.Around.frames_deeper hl
  · have := a.dp; show A.depth + 1 + n < 800; (first | lia | omega)
  · have := a.un; show A.units + 3 + 10 * n < 5000; (first | lia | omega)
  · intro w s G
    obtain ⟨K, mean, mg, mb, T⟩ := G
    exact PylongRoom.of T.nolimit (by have := a.dp; show A.depth + 1 + 100 < 1000; (first | lia | omega)) (PySem.SeerAt.of (Top.seer T (by decide +kernel)) rfl (PySem.Around.frames_deeper hl) h1 h2 h3 h4)
theorem Am.less {A : Around} {n k : Nat} (a : Am A n) (h : k ≤ n) : Am A k := ⟨a.hd, a.fr, by have := a.dp; (first | lia | omega), by have := a.un; (first | lia | omega), a.py⟩
theorem Am.room {A : Around} {n : Nat} (a : Am A n) : A.depth < recursionLimit := by have := a.dp; show A.depth < 1000; (first | lia | omega)

section
variable {w : World} {A : Around} {E : Value → Shared → Prop} {s : Shared} {v : View} {n : Nat} {Q : Value → Shared → Prop}
theorem enter {name qual : Str} {params : Arguments} {body : List Stmt} {scope : Scope} {dV kV doc pm cdv ct oc : Value} {an od : Option Addr} {osl : Array (Option Value)} {f : Addr} {args : List Value} {binds : List (Str × Value)}
    (hA : Am A (n + 1)) (hG : Gl w s.heap) (hv : ∀ b o, v b = some o → s.heap.get? b = some o)
    (ho : (hd.heap_39 w.params).lookup f = some ⟨oc, od, .func (fnOf name qual params body scope dV kV doc pm an cdv ct), osl⟩)
    (hcd : codeIn (hd.heap_39 w.params) cdv qual = true)
    (hbind : BindsTo s (fnOf name qual params body scope dV kV doc pm an cdv ct) ⟨args, []⟩ binds) (hloc : ∀ y ∈ binds, scope.names.lookup y.1 = some .local)
    (h : ∀ L h₁ tk, let env := envX qual scope L f cdv []; let A' := A.deeper env; St v s.heap v L h₁ (fun y => binds.reverse.lookup y) [] → Am A' n →
      wpAny (model PG w) A' (execs body env)
        (fun fl s' => Q (match fl with | .ret v => v | _ => .none) s') (fun _ _ => False) { s with heap := h₁, toks := tk })
    (hco : scope.isCoroutine = false := by rfl) (hgen : scope.isGenerator = false := by rfl) (hk : scope.kind = .function := by rfl)
    (hcell : ∀ x ∈ scope.names, x.2 ≠ .cell := by decide) :
    wpAny (model PG w) A (call (.ref f) args) Q E s := by
  obtain ⟨K, mean, mg, mb, T⟩ := hG
  refine wpAny_call (codeAny_call_def (fd := fnX name qual params body scope [] dV kV doc pm an cdv ct) (body := body) (binds := binds) hA.room (K _ _ ho) rfl T.nolimit (codeRec_of K hcd) rfl hbind hcell hloc (fun h₁ hns hk₁ => ?_) hco hgen hk)
  refine wpAny_mono (h s.heap.objs.size h₁ _ ⟨⟨hk₁, fun _ _ e => e, fun b o e => hk₁ b o (hv b o e), fun _ e _ => e⟩, hns, ?_, ?_, (fun _ hp => nomatch hp), .nil⟩ (hA.deeper _ hgen hco rfl rfl)) (fun fl s' hq => hq) (fun _ _ hf => hf.elim)
  · cases q : s.heap.get? s.heap.objs.size with
    | none => rfl
    | some o => exact absurd (Heap.lt_size q) (Nat.lt_irrefl _)
  · cases q : v s.heap.objs.size with
    | none => rfl
    | some o => exact absurd (Heap.lt_size (hv _ _ q)) (Nat.lt_irrefl _)
end

def gs : List (Str × Value) := [("gcd", .ref 41), ("rat", .ref 50), ("radd", .ref 57), ("rmul", .ref 64), ("rdiv", .ref 71), ("rneg", .ref 78), ("rinv", .ref 85), ("R0", .ref 42), ("R1", .ref 43), ("qtrim", .ref 92), ("qadd", .ref 97), ("qneg", .ref 102), ("qsub", .ref 109), ("qscale", .ref 114), ("qraise", .ref 121), ("qmul", .ref 128), ("qdivmod", .ref 135), ("qmonic", .ref 142), ("qgcd", .ref 149), ("qextended", .ref 156), ("_law_take", .ref 163), ("_law_row", .ref 168), ("_law_point", .ref 185), ("_law_drawn", .ref 190), ("_law_is_sum", .ref 195)]
def bs : List (Str × Value) := [("abs", .builtin "abs"), ("len", .builtin "len"), ("max", .builtin "max"), ("list", .type "list"), ("range", .type "range"), ("enumerate", .type "enumerate")]
def tv (x : Str) : Option Value := (gs ++ bs).lookup x
theorem kG (P) : gs.map (fun p => nsIn (hd.heap_39 P) mainGlobals p.1) = gs.map (fun p => some (some p.2)) := by kernel_rfl!
theorem kB (P) : bs.map (fun p => (nsIn (hd.heap_39 P) mainGlobals p.1, bootBuiltins p.1, decide (p.1 = Str.ofString "__name__"))) = bs.map (fun p => (some none, some p.2, false)) := by kernel_rfl!
theorem mem_lookup {x : Str} {y : Value} : ∀ {l : List (Str × Value)}, l.lookup x = some y → (x, y) ∈ l
  | [], h => by cases h
  | (a, b) :: l, h => by
    rw [List.lookup] at h
    split at h
    · rename_i e
      cases h
      rw [eq_of_beq e]
      exact .head _
    · exact .tail _ (mem_lookup h)
theorem tbOk (P) {x : Str} {y : Value} (e : tv x = some y) : nsIn (hd.heap_39 P) mainGlobals x = some (some y) ∨ nsIn (hd.heap_39 P) mainGlobals x = some none ∧ bootBuiltins x = some y ∧ x ≠ "__name__" := by
  rcases List.mem_append.mp (mem_lookup e) with h | h
  · exact .inl (List.map_inj_left.mp (kG P) _ h)
  · have := List.map_inj_left.mp (kB P) _ h
    simp only [Prod.mk.injEq, decide_eq_false_iff_not] at this
    exact .inr this
section
variable {w : World} {A : Around} {E : Value → Shared → Prop} {s : Shared} {v0 v : View} {h0 : Heap} {L a : Addr} {m : Str → Option Value} {mu : List (Addr × Obj)} {cn : Str} {cs : Scope} {ccd : Value} {cl : List (Str × Addr)}
  {env : Env} {x : Str} {pos : Pos} {val : Value} {Q : Value → Shared → Prop}
theorem St.gl (S : St v0 h0 v L s.heap m mu) (G : Gl w h0) : Gl w s.heap := G.keeps S.gr.ext
theorem nmL (S : St v0 h0 v L s.heap m mu) (hv : m x = some val) (h : Q val s)
    (hL : env.locals = L := by rfl) (hk : env.scope.kind = .function := by rfl) (hx : env.kindOf x = some .local := by rfl) (hd : (x == ("__debug__" : Str)) = false := by decide) :
    wpAny (model PG w) A (eval (.Name x pos) env) Q E s := wpAny_Name (wpAny_loadName_local hk hx (by rw [hL]; exact S.ns) hv h) hd
theorem ldL (S : St v0 h0 v L s.heap m mu) (hv : m x = some val) (h : Q val s)
    (hL : env.locals = L := by rfl) (hk : env.scope.kind = .function := by rfl) (hx : env.kindOf x = some .local := by rfl) :
    wpAny (model PG w) A (loadName env x) Q E s := wpAny_loadName_local hk hx (by rw [hL]; exact S.ns) hv h
theorem nmX (S : St v0 h0 v L s.heap m mu) (G : Gl w h0) (e : tv x = some val) (h : Q val s)
    (hk : env.scope.kind = .function := by rfl) (hx : env.kindOf x = some .globalImplicit := by rfl) (hg : env.globals = mainGlobals := by rfl) (hb : env.builtins = builtinsNs := by rfl) (hd : (x == ("__debug__" : Str)) = false := by decide) :
    wpAny (model PG w) A (eval (.Name x pos) env) Q E s := by
  obtain ⟨K, mean, mg, mb, T⟩ := S.gl G
  rcases tbOk w.params e with e | ⟨e, hv, hn⟩
  · exact Name_function_global hk hx (loadGlobal_global (env := env) (by rw [hg]; exact T.g) (mg_of K T.g e) h) hd
  · exact Name_function_global hk hx (loadGlobal_builtin (env := env) (by rw [hg]; exact T.g) (mg_none_of K T.g e) (by rw [hb]; exact T.b) ((T.builtins x hn).trans hv) h) hd
def CellAt (v : View) (c : Addr) (val : Value) : Prop := ∃ o, v c = some o ∧ o.data = .cell (some val)
theorem nmC {c : Addr} (S : St v0 h0 v L s.heap m mu) (hc : env.cells.lookup x = some c) (hv : CellAt v c val) (h : Q val s)
    (hk : env.scope.kind = .function := by rfl) (hx : env.kindOf x = some .cell := by rfl) (hd : (x == ("__debug__" : Str)) = false := by decide) :
    wpAny (model PG w) A (eval (.Name x pos) env) Q E s := by
  obtain ⟨o, ho, hd'⟩ := hv
  exact wpAny_Name (wpAny_loadName_cell hk hx hc ⟨o, S.gr.le _ _ ho, hd'⟩ h) hd
theorem stL {Q : Unit → Shared → Prop} (S : St v0 h0 v L s.heap m mu) (h : ∀ h' tk, let m' : Str → Option Value := fun y => if y = x then some val else m y; St v0 h0 v L h' m' mu → Q () { s with heap := h', toks := tk })
    (hL : env.locals = L := by rfl) (hk : env.scope.kind = .function := by rfl) (hx : env.kindOf x = some .local := by rfl) :
    wpAny (model PG w) A (storeName env x val) Q E s := by
  subst hL
  refine wpAny_storeName_local hx S.ns (fun h' hn hs => h h' _ ⟨⟨fun b o e => ?_, S.gr.sub, fun b o e => ?_, S.gr.hid⟩, hn, S.newL, S.hidL, fun p hp => ?_, S.nd⟩) (by rw [hk]; rfl)
  · refine (hs.2 b ?_).trans (S.gr.ext b o e)
    intro q; have := S.newL; rw [q] at e; rw [e] at this; cases this
  · refine (hs.2 b ?_).trans (S.gr.le b o e)
    intro q; have := S.hidL; rw [q] at e; rw [e] at this; cases this
  · obtain ⟨a1, a2, a3, a4⟩ := S.mus p hp
    exact ⟨(hs.2 p.1 a2).trans a1, a2, a3, a4⟩
end


def Sub (v v' : View) : Prop := ∀ b o, v b = some o → v' b = some o
theorem Sub.refl (v : View) : Sub v v := fun _ _ e => e
theorem Sub.trans {a b c : View} (x : Sub a b) (y : Sub b c) : Sub a c := fun p o e => y p o (x p o e)

theorem CellAt.mono {v v' : View} {c : Addr} {x : Value} (h : CellAt v c x) (s : Sub v v') : CellAt v' c x := let ⟨o, a, b⟩ := h; ⟨o, s _ _ a, b⟩

def addV (v : View) (a : Addr) (o : Obj) : View := fun b => if b = a then some o else v b
theorem addV_self (v : View) (a : Addr) (o : Obj) : addV v a o a = some o := if_pos rfl
theorem addV_ne (v : View) {a b : Addr} (o : Obj) (h : b ≠ a) : addV v a o b = v b := if_neg h
theorem sub_add {v : View} {a : Addr} {o : Obj} (h : v a = none) : Sub v (addV v a o) := fun b o' e => by
  by_cases q : b = a
  · subst q; rw [h] at e; cases e
  · rw [addV_ne _ _ q]; exact e

section
variable {v0 v : View} {h0 h : Heap} {L : Addr} {m : Str → Option Value} {mu : List (Addr × Obj)}
theorem size_none (h : Heap) : h.get? h.objs.size = none := by
  cases q : h.get? h.objs.size with
  | none => rfl
  | some o => exact absurd (Heap.lt_size q) (Nat.lt_irrefl _)
theorem St.vnone (S : St v0 h0 v L h m mu) {a : Addr} (e : h.get? a = none) : v a = none := by
  cases q : v a with
  | none => rfl
  | some o => rw [S.gr.le _ _ q] at e; cases e
theorem St.h0none (S : St v0 h0 v L h m mu) {a : Addr} (e : h.get? a = none) : h0.get? a = none := by
  cases q : h0.get? a with
  | none => rfl
  | some o => rw [S.gr.ext _ _ q] at e; cases e
theorem St.neL (S : St v0 h0 v L h m mu) {a : Addr} (e : h.get? a = none) : a ≠ L := by
  intro q; subst q
  obtain ⟨o, _, _, ho, _⟩ := S.ns
  rw [ho] at e; cases e
theorem St.more (S : St v0 h0 v L h m mu) {h' : Heap} (k : ∀ b o, h.get? b = some o → h'.get? b = some o) : St v0 h0 v L h' m mu :=
  ⟨⟨fun b o e => k b o (S.gr.ext b o e), S.gr.sub, fun b o e => k b o (S.gr.le b o e), S.gr.hid⟩, S.ns.at' fun o e => k _ o e, S.newL, S.hidL,
    fun p hp => let ⟨a, b, c, d⟩ := S.mus p hp; ⟨k _ _ a, b, c, d⟩, S.nd⟩
theorem St.push (S : St v0 h0 v L h m mu) (o : Obj) (hf : o.isFreed = false := by rfl) : St v0 h0 (addV v h.objs.size o) L (h.push o) m mu := by
  have n := size_none h
  refine ⟨⟨fun b x e => Heap.get?_push_of_some _ (S.gr.ext b x e), fun b x e => sub_add (S.vnone n) b x (S.gr.sub b x e), fun b x e => ?_, fun b e q => ?_⟩, S.ns.at' fun x e => Heap.get?_push_of_some _ e, S.newL, ?_, fun p hp => ?_, S.nd⟩
  · by_cases z : b = h.objs.size
    · subst z; rw [addV_self] at e; cases e; exact Heap.get?_push_size _ hf
    · rw [addV_ne _ _ z] at e; exact Heap.get?_push_of_some _ (S.gr.le b x e)
  · rw [addV_ne _ _ ?_]
    · exact S.gr.hid b e q
    · intro z; subst z; exact q (S.h0none n)
  · rw [addV_ne _ _ (S.neL n).symm]; exact S.hidL
  · obtain ⟨a, b, c, d⟩ := S.mus p hp
    refine ⟨Heap.get?_push_of_some _ a, b, c, ?_⟩
    rw [addV_ne _ _ ?_]
    · exact d
    · intro z; rw [z, n] at a; cases a
theorem St.subPush (S : St v0 h0 v L h m mu) (o : Obj) : Sub v (addV v h.objs.size o) := sub_add (S.vnone (size_none h))
theorem St.pushMu (S : St v0 h0 v L h m mu) (o : Obj) (hf : o.isFreed = false := by rfl) : St v0 h0 v L (h.push o) m ((h.objs.size, o) :: mu) := by
  have n := size_none h
  have S' := S.more (h' := h.push o) fun b x e => Heap.get?_push_of_some _ e
  refine ⟨S'.gr, S'.ns, S'.newL, S'.hidL, fun p hp => ?_, ?_⟩
  · rcases List.mem_cons.mp hp with rfl | hp
    · exact ⟨Heap.get?_push_size _ hf, S.neL n, S.h0none n, S.vnone n⟩
    · exact S'.mus p hp
  · refine List.nodup_cons.mpr ⟨fun hm => ?_, S.nd⟩
    obtain ⟨p, hp, e⟩ := List.mem_map.mp hm
    have := (S.mus p hp).1
    rw [e] at this; dsimp only at this; rw [n] at this; cases this
theorem St.freeze {a : Addr} {o : Obj} (S : St v0 h0 v L h m ((a, o) :: mu)) : St v0 h0 (addV v a o) L h m mu := by
  obtain ⟨q1, q2, q3, q4⟩ := S.mus _ (.head _)
  have nd := List.nodup_cons.mp S.nd
  refine ⟨⟨S.gr.ext, fun b x e => sub_add q4 b x (S.gr.sub b x e), fun b x e => ?_, fun b e q => ?_⟩, S.ns, S.newL, ?_, fun p hp => ?_, nd.2⟩
  · by_cases z : b = a
    · subst z; rw [addV_self] at e; cases e; exact q1
    · rw [addV_ne _ _ z] at e; exact S.gr.le b x e
  · rw [addV_ne _ _ ?_]
    · exact S.gr.hid b e q
    · intro z; subst z; exact q q3
  · rw [addV_ne _ _ (Ne.symm q2)]; exact S.hidL
  · obtain ⟨a1, b1, c1, d1⟩ := S.mus p (.tail _ hp)
    refine ⟨a1, b1, c1, ?_⟩
    rw [addV_ne _ _ ?_]
    · exact d1
    · intro z; exact nd.1 (List.mem_map.mpr ⟨p, hp, z⟩)
theorem St.subFreeze {a : Addr} {o : Obj} (S : St v0 h0 v L h m ((a, o) :: mu)) : Sub v (addV v a o) := sub_add (S.mus _ (.head _)).2.2.2
theorem St.grow (S : St v0 h0 v L h m mu) {v' : View} {h' : Heap} (g : Grow v h v' h') : St v0 h0 v' L h' m mu := by
  refine ⟨S.gr.trans g, S.ns.at' fun o e => g.ext _ o e, S.newL, ?_, fun p hp => ?_, S.nd⟩
  · obtain ⟨o, _, _, ho, _⟩ := S.ns
    exact g.hid L S.hidL (by rw [ho]; exact fun z => nomatch z)
  · obtain ⟨a, b, c, d⟩ := S.mus p hp
    exact ⟨g.ext _ _ a, b, c, g.hid _ d (by rw [a]; exact fun z => nomatch z)⟩
theorem St.upd {a : Addr} {o o' : Obj} {pre : List (Addr × Obj)} {f : Obj → Obj} (S : St v0 h0 v L h m (pre ++ (a, o) :: mu)) (e : f o = o') (hf : o'.isFreed = false) : St v0 h0 v L (h.update a f) m (pre ++ (a, o') :: mu) := by
  obtain ⟨q1, q2, q3, q4⟩ := S.mus (a, o) (by simp)
  have hne : ∀ b, b ≠ a → (h.update a f).get? b = h.get? b := fun b n => Heap.get?_update_ne _ _ _ _ n
  have nd := S.nd
  refine ⟨⟨fun b x q => (hne b ?_).trans (S.gr.ext b x q), S.gr.sub, fun b x q => (hne b ?_).trans (S.gr.le b x q), S.gr.hid⟩, S.ns.at' fun x q => (hne L (Ne.symm q2)).trans q, S.newL, S.hidL, fun p hp => ?_, ?_⟩
  · intro z; subst z; rw [q3] at q; cases q
  · intro z; subst z; rw [q4] at q; cases q
  · rw [List.map_append, List.map_cons] at nd
    rcases List.mem_append.mp hp with hp | hp
    · obtain ⟨a1, b1, c1, d1⟩ := S.mus p (List.mem_append_left _ hp)
      refine ⟨(hne _ ?_).trans a1, b1, c1, d1⟩
      exact (List.nodup_append.mp nd).2.2 _ (List.mem_map_of_mem hp) _ (.head _)
    · rcases List.mem_cons.mp hp with rfl | hp
      · exact ⟨by rw [← e]; exact Heap.get?_update_self _ q1 (e ▸ hf), q2, q3, q4⟩
      · obtain ⟨a1, b1, c1, d1⟩ := S.mus p (List.mem_append_right _ (.tail _ hp))
        refine ⟨(hne _ ?_).trans a1, b1, c1, d1⟩
        intro z
        exact (List.nodup_cons.mp (List.nodup_append.mp nd).2.1).1 (List.mem_map.mpr ⟨p, hp, z⟩)
  · rw [List.map_append, List.map_cons] at nd ⊢; exact nd
theorem St.updB {a : Addr} {o o' : Obj} {pre : List (Addr × Obj)} {h' : Heap} (S : St v0 h0 v L h m (pre ++ (a, o) :: mu)) (hs : Heap.SameBut a h h') (e : h'.get? a = some o') : St v0 h0 v L h' m (pre ++ (a, o') :: mu) := by
  obtain ⟨q1, q2, q3, q4⟩ := S.mus (a, o) (by simp)
  have hne : ∀ b, b ≠ a → h'.get? b = h.get? b := fun b n => hs.2 b n
  have nd := S.nd
  refine ⟨⟨fun b x q => (hne b ?_).trans (S.gr.ext b x q), S.gr.sub, fun b x q => (hne b ?_).trans (S.gr.le b x q), S.gr.hid⟩, S.ns.at' fun x q => (hne L (Ne.symm q2)).trans q, S.newL, S.hidL, fun p hp => ?_, ?_⟩
  · intro z; subst z; rw [q3] at q; cases q
  · intro z; subst z; rw [q4] at q; cases q
  · rw [List.map_append, List.map_cons] at nd
    rcases List.mem_append.mp hp with hp | hp
    · obtain ⟨a1, b1, c1, d1⟩ := S.mus p (List.mem_append_left _ hp)
      refine ⟨(hne _ ?_).trans a1, b1, c1, d1⟩
      exact (List.nodup_append.mp nd).2.2 _ (List.mem_map_of_mem hp) _ (.head _)
    · rcases List.mem_cons.mp hp with rfl | hp
      · exact ⟨e, q2, q3, q4⟩
      · obtain ⟨a1, b1, c1, d1⟩ := S.mus p (List.mem_append_right _ (.tail _ hp))
        refine ⟨(hne _ ?_).trans a1, b1, c1, d1⟩
        intro z
        exact (List.nodup_cons.mp (List.nodup_append.mp nd).2.1).1 (List.mem_map.mpr ⟨p, hp, z⟩)
  · rw [List.map_append, List.map_cons] at nd ⊢; exact nd
end

theorem ar1 (k : Nat) : ((k : Int) - 1).toNat = k - 1 := Int.toNat_sub k 1
theorem ar2 (k : Nat) : ((-1 : Int) + (k : Int)).toNat = k - 1 := by rw [Int.add_comm]; exact Int.toNat_sub k 1
theorem ar3 (r b : Nat) : ((r : Int) - (b : Int)).toNat = r - b := Int.toNat_sub r b
theorem ar4 {i n : Nat} (h : i < n) : n + 1 - (i + 1) < n + 1 - i := Nat.sub_lt_sub_left (Nat.lt_succ_of_lt h) (Nat.lt_succ_self i)
theorem ar5 {m : Nat} (h : 1 ≤ m) : 24 - 5 * m ≤ 19 := Nat.sub_le_sub_left (Nat.mul_le_mul_left 5 h) 24
theorem ar6 {m : Nat} (h : 2 ≤ m) : 24 - 5 * m ≤ 14 := Nat.sub_le_sub_left (Nat.mul_le_mul_left 5 h) 24
theorem ar7 {s r g : Nat} (h : s ≤ max 1 (r + 1 - g)) : ¬ (max 1 ((r : Int) - g + 1) < (s : Int)) := by lia
theorem ar8 (i j : Nat) : ((i : Int) + (j : Int)).toNat = i + j := Int.toNat_natCast (i + j)
theorem ar11 {lq n0 n1 l k1 : Nat} (hq : lq ≤ n0 + 1 - n1) (b : k1 + n0 ≤ l + 1) (hl : 0 < lq) : lq + k1 - 1 ≤ l + 1 - n1 := by
  have h1 : lq + n1 ≤ n0 + 1 := Nat.add_le_of_le_sub (Nat.le_of_lt (Nat.lt_of_sub_pos (Nat.lt_of_lt_of_le hl hq))) hq
  refine Nat.le_sub_of_add_le ?_
  obtain ⟨q, rfl⟩ : ∃ q, lq = q + 1 := ⟨lq - 1, (Nat.succ_pred_eq_of_pos hl).symm⟩
  have h2 : q + n1 ≤ n0 := Nat.le_of_succ_le_succ (by rw [Nat.succ_eq_add_one, Nat.add_right_comm] ; exact h1)
  rw [Nat.add_right_comm q 1 k1, Nat.add_sub_cancel, Nat.add_right_comm]
  exact Nat.le_trans (Nat.add_le_add_right h2 k1) (Nat.add_comm n0 k1 ▸ b)
theorem ar13 (k : Int) (hk : 0 ≤ k) (l : Nat) : max 0 (min k (l : Int)) = ((min k.toNat l : Nat) : Int) := by
  rcases Int.le_total k l with h | h
  · rw [Int.min_eq_left h, Int.max_eq_right hk, Nat.min_eq_left (Int.toNat_le.mpr h), Int.toNat_of_nonneg hk]
  · rw [Int.min_eq_right h, Int.max_eq_right (Int.natCast_nonneg l), Nat.min_eq_right ((Int.le_toNat hk).mpr h)]
theorem ar14 (l : Nat) : max 0 (min (-1 + (l : Int)) l) = ((l - 1 : Nat) : Int) := by
  cases l with
  | zero => rfl
  | succ n =>
    rw [Nat.add_sub_cancel, Int.natCast_succ, Int.add_comm (n : Int) 1, ← Int.add_assoc, show (-1 : Int) + 1 = 0 from rfl, Int.zero_add, Int.min_eq_left (Int.le_add_of_nonneg_left (by decide)), Int.max_eq_right (Int.natCast_nonneg n)]
theorem ar12 {q a b : Nat} (h : q ≤ a + 1 - b) : q < a + 2 - b ∨ q = 0 := by
  rcases Nat.le_total b (a + 1) with hb | hb
  · exact .inl (Nat.lt_of_le_of_lt h (by rw [Nat.add_succ, Nat.succ_sub hb]; exact Nat.lt_succ_self _))
  · rw [Nat.sub_eq_zero_of_le hb] at h; exact .inr (Nat.le_zero.mp h)
theorem byP {G : Prop} (h : ∀ P : Prop, (G → P) → P) : G := h G id
theorem and5 {a1 a2 a3 a4 a5 P : Prop} (h : a1 ∧ a2 ∧ a3 ∧ a4 ∧ a5) (k : a1 → a2 → a3 → a4 → a5 → P) : P := k h.1 h.2.1 h.2.2.1 h.2.2.2.1 h.2.2.2.2
theorem and6 {a1 a2 a3 a4 a5 a6 P : Prop} (h : a1 ∧ a2 ∧ a3 ∧ a4 ∧ a5 ∧ a6) (k : a1 → a2 → a3 → a4 → a5 → a6 → P) : P := k h.1 h.2.1 h.2.2.1 h.2.2.2.1 h.2.2.2.2.1 h.2.2.2.2.2
theorem and7 {a1 a2 a3 a4 a5 a6 a7 P : Prop} (h : a1 ∧ a2 ∧ a3 ∧ a4 ∧ a5 ∧ a6 ∧ a7) (k : a1 → a2 → a3 → a4 → a5 → a6 → a7 → P) : P := k h.1 h.2.1 h.2.2.1 h.2.2.2.1 h.2.2.2.2.1 h.2.2.2.2.2.1 h.2.2.2.2.2.2
theorem and8 {a1 a2 a3 a4 a5 a6 a7 a8 P : Prop} (h : a1 ∧ a2 ∧ a3 ∧ a4 ∧ a5 ∧ a6 ∧ a7 ∧ a8) (k : a1 → a2 → a3 → a4 → a5 → a6 → a7 → a8 → P) : P := k h.1 h.2.1 h.2.2.1 h.2.2.2.1 h.2.2.2.2.1 h.2.2.2.2.2.1 h.2.2.2.2.2.2.1 h.2.2.2.2.2.2.2
theorem and9 {a1 a2 a3 a4 a5 a6 a7 a8 a9 P : Prop} (h : a1 ∧ a2 ∧ a3 ∧ a4 ∧ a5 ∧ a6 ∧ a7 ∧ a8 ∧ a9) (k : a1 → a2 → a3 → a4 → a5 → a6 → a7 → a8 → a9 → P) : P := k h.1 h.2.1 h.2.2.1 h.2.2.2.1 h.2.2.2.2.1 h.2.2.2.2.2.1 h.2.2.2.2.2.2.1 h.2.2.2.2.2.2.2.1 h.2.2.2.2.2.2.2.2
theorem and13 {a1 a2 a3 a4 a5 a6 a7 a8 a9 a10 a11 a12 a13 P : Prop} (h : a1 ∧ a2 ∧ a3 ∧ a4 ∧ a5 ∧ a6 ∧ a7 ∧ a8 ∧ a9 ∧ a10 ∧ a11 ∧ a12 ∧ a13) (k : a1 → a2 → a3 → a4 → a5 → a6 → a7 → a8 → a9 → a10 → a11 → a12 → a13 → P) : P := k h.1 h.2.1 h.2.2.1 h.2.2.2.1 h.2.2.2.2.1 h.2.2.2.2.2.1 h.2.2.2.2.2.2.1 h.2.2.2.2.2.2.2.1 h.2.2.2.2.2.2.2.2.1 h.2.2.2.2.2.2.2.2.2.1 h.2.2.2.2.2.2.2.2.2.2.1 h.2.2.2.2.2.2.2.2.2.2.2.1 h.2.2.2.2.2.2.2.2.2.2.2.2
theorem and15 {a1 a2 a3 a4 a5 a6 a7 a8 a9 a10 a11 a12 a13 a14 a15 P : Prop} (h : a1 ∧ a2 ∧ a3 ∧ a4 ∧ a5 ∧ a6 ∧ a7 ∧ a8 ∧ a9 ∧ a10 ∧ a11 ∧ a12 ∧ a13 ∧ a14 ∧ a15) (k : a1 → a2 → a3 → a4 → a5 → a6 → a7 → a8 → a9 → a10 → a11 → a12 → a13 → a14 → a15 → P) : P := k h.1 h.2.1 h.2.2.1 h.2.2.2.1 h.2.2.2.2.1 h.2.2.2.2.2.1 h.2.2.2.2.2.2.1 h.2.2.2.2.2.2.2.1 h.2.2.2.2.2.2.2.2.1 h.2.2.2.2.2.2.2.2.2.1 h.2.2.2.2.2.2.2.2.2.2.1 h.2.2.2.2.2.2.2.2.2.2.2.1 h.2.2.2.2.2.2.2.2.2.2.2.2.1 h.2.2.2.2.2.2.2.2.2.2.2.2.2.1 h.2.2.2.2.2.2.2.2.2.2.2.2.2.2
theorem and19 {a1 a2 a3 a4 a5 a6 a7 a8 a9 a10 a11 a12 a13 a14 a15 a16 a17 a18 a19 P : Prop} (h : a1 ∧ a2 ∧ a3 ∧ a4 ∧ a5 ∧ a6 ∧ a7 ∧ a8 ∧ a9 ∧ a10 ∧ a11 ∧ a12 ∧ a13 ∧ a14 ∧ a15 ∧ a16 ∧ a17 ∧ a18 ∧ a19) (k : a1 → a2 → a3 → a4 → a5 → a6 → a7 → a8 → a9 → a10 → a11 → a12 → a13 → a14 → a15 → a16 → a17 → a18 → a19 → P) : P := k h.1 h.2.1 h.2.2.1 h.2.2.2.1 h.2.2.2.2.1 h.2.2.2.2.2.1 h.2.2.2.2.2.2.1 h.2.2.2.2.2.2.2.1 h.2.2.2.2.2.2.2.2.1 h.2.2.2.2.2.2.2.2.2.1 h.2.2.2.2.2.2.2.2.2.2.1 h.2.2.2.2.2.2.2.2.2.2.2.1 h.2.2.2.2.2.2.2.2.2.2.2.2.1 h.2.2.2.2.2.2.2.2.2.2.2.2.2.1 h.2.2.2.2.2.2.2.2.2.2.2.2.2.2.1 h.2.2.2.2.2.2.2.2.2.2.2.2.2.2.2.1 h.2.2.2.2.2.2.2.2.2.2.2.2.2.2.2.2.1 h.2.2.2.2.2.2.2.2.2.2.2.2.2.2.2.2.2.1 h.2.2.2.2.2.2.2.2.2.2.2.2.2.2.2.2.2.2
theorem ex2 {α1 : Type} {α2 : Type} {p : α1 → α2 → Prop} {P : Prop} (h : ∃ x1 x2, p x1 x2) (k : ∀ x1 x2, p x1 x2 → P) : P := let ⟨x1, x2, q⟩ := h; k x1 x2 q
theorem ex3 {α1 : Type} {α2 : Type} {α3 : Type} {p : α1 → α2 → α3 → Prop} {P : Prop} (h : ∃ x1 x2 x3, p x1 x2 x3) (k : ∀ x1 x2 x3, p x1 x2 x3 → P) : P := let ⟨x1, x2, x3, q⟩ := h; k x1 x2 x3 q
theorem ex3i {α1 : Type} {α2 : Type} {α3 : Type} {p : α1 → α2 → α3 → Prop} (x1 : α1) (x2 : α2) (x3 : α3) (q : p x1 x2 x3) : ∃ x1 x2 x3, p x1 x2 x3 := ⟨x1, x2, x3, q⟩
theorem ex4 {α1 : Type} {α2 : Type} {α3 : Type} {α4 : Type} {p : α1 → α2 → α3 → α4 → Prop} {P : Prop} (h : ∃ x1 x2 x3 x4, p x1 x2 x3 x4) (k : ∀ x1 x2 x3 x4, p x1 x2 x3 x4 → P) : P := let ⟨x1, x2, x3, x4, q⟩ := h; k x1 x2 x3 x4 q
theorem ex4i {α1 : Type} {α2 : Type} {α3 : Type} {α4 : Type} {p : α1 → α2 → α3 → α4 → Prop} (x1 : α1) (x2 : α2) (x3 : α3) (x4 : α4) (q : p x1 x2 x3 x4) : ∃ x1 x2 x3 x4, p x1 x2 x3 x4 := ⟨x1, x2, x3, x4, q⟩
theorem ex6 {α1 : Type} {α2 : Type} {α3 : Type} {α4 : Type} {α5 : Type} {α6 : Type} {p : α1 → α2 → α3 → α4 → α5 → α6 → Prop} {P : Prop} (h : ∃ x1 x2 x3 x4 x5 x6, p x1 x2 x3 x4 x5 x6) (k : ∀ x1 x2 x3 x4 x5 x6, p x1 x2 x3 x4 x5 x6 → P) : P := let ⟨x1, x2, x3, x4, x5, x6, q⟩ := h; k x1 x2 x3 x4 x5 x6 q
theorem ex6i {α1 : Type} {α2 : Type} {α3 : Type} {α4 : Type} {α5 : Type} {α6 : Type} {p : α1 → α2 → α3 → α4 → α5 → α6 → Prop} (x1 : α1) (x2 : α2) (x3 : α3) (x4 : α4) (x5 : α5) (x6 : α6) (q : p x1 x2 x3 x4 x5 x6) : ∃ x1 x2 x3 x4 x5 x6, p x1 x2 x3 x4 x5 x6 := ⟨x1, x2, x3, x4, x5, x6, q⟩
theorem ex8 {α1 : Type} {α2 : Type} {α3 : Type} {α4 : Type} {α5 : Type} {α6 : Type} {α7 : Type} {α8 : Type} {p : α1 → α2 → α3 → α4 → α5 → α6 → α7 → α8 → Prop} {P : Prop} (h : ∃ x1 x2 x3 x4 x5 x6 x7 x8, p x1 x2 x3 x4 x5 x6 x7 x8) (k : ∀ x1 x2 x3 x4 x5 x6 x7 x8, p x1 x2 x3 x4 x5 x6 x7 x8 → P) : P := let ⟨x1, x2, x3, x4, x5, x6, x7, x8, q⟩ := h; k x1 x2 x3 x4 x5 x6 x7 x8 q
theorem ex8i {α1 : Type} {α2 : Type} {α3 : Type} {α4 : Type} {α5 : Type} {α6 : Type} {α7 : Type} {α8 : Type} {p : α1 → α2 → α3 → α4 → α5 → α6 → α7 → α8 → Prop} (x1 : α1) (x2 : α2) (x3 : α3) (x4 : α4) (x5 : α5) (x6 : α6) (x7 : α7) (x8 : α8) (q : p x1 x2 x3 x4 x5 x6 x7 x8) : ∃ x1 x2 x3 x4 x5 x6 x7 x8, p x1 x2 x3 x4 x5 x6 x7 x8 := ⟨x1, x2, x3, x4, x5, x6, x7, x8, q⟩
abbrev F0 : Value → Shared → Prop := fun _ _ => False

section
variable {w : World} {A : Around} {E : Value → Shared → Prop} {s : Shared} {v0 v : View} {h0 : Heap} {L : Addr} {m : Str → Option Value} {mu : List (Addr × Obj)} {env : Env}

def Turn (s : Shared) (v0 : View) (h0 : Heap) (L : Addr) (v1 : View) (own : List (Addr × Obj)) (J : View → (Str → Option Value) → List (Addr × Obj) → Prop) (fl : Flow) (s₃ : Shared) : Prop :=
  fl = .next ∧ ∃ h' tk' v' m' mu', s₃ = { s with heap := h', toks := tk' } ∧ Sub v1 v' ∧ St v0 h0 v' L h' m' (own ++ mu') ∧ J v' m' mu'

theorem whileS {test : Expr} {body : List Stmt} {pos : Pos} {Q : Flow → Shared → Prop} (J : Nat → View → (Str → Option Value) → List (Addr × Obj) → Prop)
    (S : St v0 h0 v L s.heap m mu) (k : Nat) (hJ : J k v m mu)
    (turn : ∀ k v1 m1 mu1 h tk, Sub v v1 → J k v1 m1 mu1 → St v0 h0 v1 L h m1 mu1 → ∀ T : Flow → Shared → Prop, (∀ a s', Turn s v0 h0 L v1 [] (fun v' m' mu' => ∃ k', k' < k ∧ J k' v' m' mu') a s' → T a s') →
      wpAny (model PG w) A (isTrue test env (eval test env)) (fun b s₂ => if b then wpAny (model PG w) A (execs body env) T F0 s₂ else Q .next s₂) F0 { s with heap := h, toks := tk }) :
    wpAny (model PG w) A (exec (.While test body [] pos) env) Q E s := by
  refine wpAny_While (codeAny_whileLoop (fun n s' => ∃ h tk v1 m1 mu1, s' = { s with heap := h, toks := tk } ∧ Sub v v1 ∧ J n v1 m1 mu1 ∧ St v0 h0 v1 L h m1 mu1) ?_ k ⟨s.heap, s.toks, v, m, mu, rfl, Sub.refl v, hJ, S⟩)
  rintro n _ ⟨h, tk, v1, m1, mu1, rfl, hs, hj, S1⟩
  refine wpAny_mono (turn n v1 m1 mu1 h tk hs hj S1 _ fun _ _ k => k) (fun b s₂ q => ?_) fun _ _ f => f.elim
  cases b with
  | false => exact wpAny_execs_nil q
  | true =>
    refine wpAny_mono q (fun fl s₃ t => ?_) fun _ _ f => f.elim
    obtain ⟨rfl, h', tk', v', m', mu', rfl, hs', S', k', hk, hj'⟩ := t
    exact ⟨k', hk, h', tk', v', m', mu', rfl, hs.trans hs', hj', S'⟩

def stand (h : Heap) (l : List Addr) : List (Addr × Obj) := l.filterMap fun b => (h.get? b).map fun o => (b, o)
theorem stand_mem {h : Heap} {l : List Addr} {p : Addr × Obj} (hp : p ∈ stand h l) : p.1 ∈ l ∧ h.get? p.1 = some p.2 := by
  obtain ⟨b, hb, e⟩ := List.mem_filterMap.mp hp
  cases q : h.get? b with
  | none => rw [q] at e; cases e
  | some o => rw [q] at e; cases e; exact ⟨hb, q⟩
theorem mem_stand {h : Heap} {l : List Addr} {b : Addr} {o : Obj} (hb : b ∈ l) (e : h.get? b = some o) : (b, o) ∈ stand h l :=
  List.mem_filterMap.mpr ⟨b, hb, by rw [e]; rfl⟩
theorem stand_nd {h : Heap} {l : List Addr} (hn : l.Nodup) : ((stand h l).map Prod.fst).Nodup := by
  induction l with
  | nil => exact .nil
  | cons b l ih =>
    have hn' := List.nodup_cons.mp hn
    unfold stand
    rw [List.filterMap_cons]
    cases q : h.get? b with
    | none => exact ih hn'.2
    | some o =>
      refine List.nodup_cons.mpr ⟨fun hm => ?_, ih hn'.2⟩
      obtain ⟨p, hp, e⟩ := List.mem_map.mp hm
      have e' : p.1 = b := e
      exact hn'.1 (e' ▸ (stand_mem hp).1)

theorem St.withOwn {h h' : Heap} (S : St v0 h0 v L h m mu) {wr : List Addr} (hn : wr.Nodup) (hw : ∀ b ∈ wr, h0.get? b = none ∧ v b = none ∧ b ≠ L ∧ ∀ p ∈ mu, p.1 ≠ b)
    (k : ∀ b o, b ∉ wr → h.get? b = some o → h'.get? b = some o) : St v0 h0 v L h' m (stand h' wr ++ mu) := by
  refine ⟨⟨fun b o e => k b o ?_ (S.gr.ext b o e), S.gr.sub, fun b o e => k b o ?_ (S.gr.le b o e), S.gr.hid⟩, S.ns.at' fun o e => k L o ?_ e, S.newL, S.hidL, fun p hp => ?_, ?_⟩
  · intro hm; rw [(hw b hm).1] at e; cases e
  · intro hm; rw [(hw b hm).2.1] at e; cases e
  · intro hm; exact (hw L hm).2.2.1 rfl
  · rcases List.mem_append.mp hp with hp | hp
    · obtain ⟨a, b⟩ := stand_mem hp
      obtain ⟨c, d, e, _⟩ := hw _ a
      exact ⟨b, e, c, d⟩
    · obtain ⟨a, b, c, d⟩ := S.mus p hp
      exact ⟨k _ _ (fun hm => (hw _ hm).2.2.2 p hp rfl) a, b, c, d⟩
  · rw [List.map_append]
    refine List.nodup_append.mpr ⟨stand_nd hn, S.nd, fun a ha b hb e => ?_⟩
    obtain ⟨p, hp, rfl⟩ := List.mem_map.mp ha
    obtain ⟨q, hq, rfl⟩ := List.mem_map.mp hb
    exact (hw _ (stand_mem hp).1).2.2.2 q hq e.symm
theorem St.dropOwn {h : Heap} {own : List (Addr × Obj)} (S : St v0 h0 v L h m (own ++ mu)) : St v0 h0 v L h m mu :=
  ⟨S.gr, S.ns, S.newL, S.hidL, fun p hp => S.mus p (List.mem_append_right _ hp), by have := S.nd; rw [List.map_append] at this; exact (List.nodup_append.mp this).2.1⟩
theorem St.ownApart {h : Heap} {own : List (Addr × Obj)} (S : St v0 h0 v L h m (own ++ mu)) {p q : Addr × Obj} (hp : p ∈ own) (hq : q ∈ mu) : q.1 ≠ p.1 := by
  have := S.nd
  rw [List.map_append] at this
  exact fun e => (List.nodup_append.mp this).2.2 _ (List.mem_map_of_mem hp) _ (List.mem_map_of_mem hq) e.symm

theorem forS {target : Expr} {body : List Stmt} {R : Result → Shared → Prop} {I : Addr} {fp wr : List Addr} {n : Nat} {P : Nat → Value → Prop} {Sx : Nat → Heap → Prop}
    (J : Nat → View → (Str → Option Value) → List (Addr × Obj) → Prop)
    (S : St v0 h0 v L s.heap m mu) (W : Walks PG w A I fp wr n P Sx) (hs : Sx 0 s.heap) (hn : wr.Nodup)
    (hw : ∀ b ∈ wr, (∃ o, s.heap.get? b = some o) ∧ h0.get? b = none ∧ v b = none ∧ b ≠ L ∧ ∀ p ∈ mu, p.1 ≠ b) (hfp : ∀ b ∈ fp, b ∈ wr ∨ ∃ o, v b = some o)
    (hlive : ∀ i h, Sx i h → ∀ b ∈ wr, ∃ o, h.get? b = some o)
    (hJ : J 0 v m mu)
    (turn : ∀ i x v1 m1 mu1 own h tk, i < n → P i x → Sub v v1 → J i v1 m1 mu1 → St v0 h0 v1 L h m1 (own ++ mu1) → ∀ T : Flow → Shared → Prop, (∀ a s', Turn s v0 h0 L v1 own (J (i + 1)) a s' → T a s') →
      wpAny (model PG w) A (assign target env x) (fun _ s₂ => wpAny (model PG w) A (execs body env) T F0 s₂) F0 { s with heap := h, toks := tk })
    (done : ∀ v1 m1 mu1 h tk, Sub v v1 → J n v1 m1 mu1 → St v0 h0 v1 L h m1 mu1 → R (.ok .next) { s with heap := h, toks := tk })
    (ht : ∀ x, letOwnedTupleGo target (.ref I) x = pure () := by intro _; rfl) :
    codeAny (model PG w) A (.forLoop target (.ref I) body [] env) R s := by
  refine codeAny_forLoop (fun k s' => ∃ i h tk v1 m1 mu1, k = n + 1 - i ∧ i ≤ n ∧ s' = { s with heap := h, toks := tk } ∧ Sub v v1 ∧ J i v1 m1 mu1 ∧ St v0 h0 v1 L h m1 mu1 ∧ Sx i h ∧
      (∀ b ∈ wr, v1 b = none ∧ ∀ p ∈ mu1, p.1 ≠ b)) ?_ (n + 1) (ex6i 0 s.heap s.toks v m mu ⟨by (first | lia | omega), Nat.zero_le _, rfl, Sub.refl v, hJ, S, hs, fun b hb => ⟨(hw b hb).2.2.1, (hw b hb).2.2.2.2⟩⟩) ht
  rintro k s' hJ
  refine ex6 hJ fun i h tk v1 m1 mu1 hK => ?_
  clear hJ
  refine and8 hK fun hkk hi hs' hsv hj S1 hx hap => ?_
  clear hK
  subst hkk hs'
  by_cases hlt : i < n
  · refine W.item i _ _ _ hlt hx fun x h' tk' hP hx' hk => ?_
    have S2 := S1.withOwn hn (fun b hb => ⟨(hw b hb).2.1, (hap b hb).1, (hw b hb).2.2.2.1, (hap b hb).2⟩) hk
    refine wpAny_mono (turn i x v1 m1 mu1 _ h' tk' hlt hP hsv hj S2 _ fun _ _ k => k) (fun _ s₂ q => ?_) fun _ _ f => f.elim
    refine wpAny_mono q (fun fl s₃ t => ?_) fun _ _ f => f.elim
    obtain ⟨rfl, h3, tk3, v3, m3, mu3, rfl, hs3, S3, hj3⟩ := t
    refine ⟨n + 1 - (i + 1), ar4 hlt, ex6i (i + 1) h3 tk3 v3 m3 mu3 ⟨rfl, hlt, rfl, hsv.trans hs3, hj3, S3.dropOwn, ?_, fun b hb => ?_⟩⟩
    · refine W.frame _ _ _ hx' fun b hb o e => ?_
      rcases hfp b hb with q | ⟨o', q⟩
      · exact (S3.mus (b, o) (List.mem_append_left _ (mem_stand q e))).1
      · have e1 := S2.gr.le b o' (hsv b o' q)
        rw [e1] at e; cases e
        exact S3.gr.le b _ (hs3 b _ (hsv b _ q))
    · obtain ⟨o, ho⟩ := hlive _ _ hx' b hb
      refine ⟨(S3.mus (b, o) (List.mem_append_left _ (mem_stand hb ho))).2.2.2, fun p hp => S3.ownApart (p := (b, o)) (mem_stand hb ho) hp⟩
  · have e : i = n := by (first | lia | omega)
    subst e
    refine W.done _ _ _ hx fun h' tk' hk => wpAny_execs_nil ?_
    exact done v1 m1 mu1 h' tk' hsv hj (St.dropOwn (S1.withOwn hn (fun b hb => ⟨(hw b hb).2.1, (hap b hb).1, (hw b hb).2.2.2.1, (hap b hb).2⟩) hk))
end

section
variable {w : World} {A : Around} {E : Value → Shared → Prop} {s : Shared} {v0 v : View} {h0 : Heap} {L : Addr} {m : Str → Option Value} {mu : List (Addr × Obj)} {env : Env}
abbrev tupO (vs : List Value) : Obj := { cls := .type "tuple", data := .seq vs.toArray }
abbrev lstO (vs : List Value) : Obj := { cls := .type "list", data := .seq vs.toArray }
theorem nwT {vs : List Value} {Q : Value → Shared → Prop} (S : St v0 h0 v L s.heap m mu)
    (h : ∀ a v' h', St v0 h0 v' L h' m mu → Sub v v' → v' a = some (tupO vs) → Q (.ref a) { s with heap := h' }) (hsz : vs.length ≤ sizeLine := by size_fits) :
    wpAny (model PG w) A (newTuple vs) Q E s :=
  wpAny_newObj_type (h _ _ _ (S.push _) (S.subPush _) (addV_self _ _ _)) (by show vs.toArray.size ≤ sizeLine; rw [List.size_toArray]; exact hsz)
theorem nwL {vs : List Value} {Q : Value → Shared → Prop} (S : St v0 h0 v L s.heap m mu)
    (h : ∀ a v' h', St v0 h0 v' L h' m mu → Sub v v' → v' a = some (lstO vs) → Q (.ref a) { s with heap := h' }) (hsz : vs.length ≤ sizeLine := by size_fits) :
    wpAny (model PG w) A (newList vs) Q E s :=
  wpAny_newObj_type (h _ _ _ (S.push _) (S.subPush _) (addV_self _ _ _)) (by show vs.toArray.size ≤ sizeLine; rw [List.size_toArray]; exact hsz)
theorem nwM {vs : List Value} {Q : Value → Shared → Prop} (S : St v0 h0 v L s.heap m mu)
    (h : ∀ a h', St v0 h0 v L h' m ((a, lstO vs) :: mu) → Q (.ref a) { s with heap := h' }) (hsz : vs.length ≤ sizeLine := by size_fits) :
    wpAny (model PG w) A (newList vs) Q E s :=
  wpAny_newObj_type (h _ _ (S.pushMu _)) (by show vs.toArray.size ≤ sizeLine; rw [List.size_toArray]; exact hsz)
theorem isTup_of {h : Heap} {a : Addr} {vs : List Value} {n : Nat} (e : h.get? a = some { cls := .type "tuple", data := .seq vs.toArray n }) : IsTup h a vs.toArray := ⟨_, e, rfl, n, rfl⟩
theorem isLst_of {h : Heap} {a : Addr} {vs : List Value} {n : Nat} (e : h.get? a = some { cls := .type "list", data := .seq vs.toArray n }) : h.IsList a vs.toArray := ⟨_, e, rfl, n, rfl⟩
theorem upk {vs : List Value} {k n : Nat} {a : Addr} {Q : List Value → Shared → Prop} (S : St v0 h0 v L s.heap m mu) (hh : A.handled = none) (ha : v a = some { cls := .type "tuple", data := .seq vs.toArray n }) (hk : k = vs.length)
    (h : ∀ h', St v0 h0 v L h' m mu → Q vs { s with heap := h' }) : wpAny (model PG w) A (unpackItems (.ref a) k none) Q E s := by
  subst hk
  have q := unpackItems_tuple (prog := PG) (w := w) (Q := Q) (E := E) hh (isTup_of (S.gr.le _ _ ha)) fun h' he => h h' (S.more fun b o e => he b o (Nat.ne_of_lt (Heap.lt_size e)) e)
  simpa using q
theorem asT {vs : List Value} {n k : Nat} {a : Addr} {elts : List Expr} {pos : Pos} {Q : Unit → Shared → Prop} (S : St v0 h0 v L s.heap m mu) (hh : A.handled = none) (ha : v a = some { cls := .type "tuple", data := .seq vs.toArray n })
    (hk : (assignEach elts env).length = vs.length) (hs : (assignEach elts env).findIdx? (·.1) = none)
    (h : ∀ h', St v0 h0 v L h' m mu → wpAny (model PG w) A (assignInOrder ((assignEach elts env).map (·.2)) vs) Q E { s with heap := h' }) : wpAny (model PG w) A (assign (.Tuple elts k pos) env (.ref a)) Q E s :=
  wpAny_assign_Tuple hh (isTup_of (S.gr.le _ _ ha)) (by simpa using hk) hs fun h' he => by simpa using h h' (S.more fun b o e => he b o (Nat.ne_of_lt (Heap.lt_size e)) e)
theorem cwF {pos : Pos} {f : Addr} {e : Expr} {rest : List Expr} {Q : Value → Shared → Prop} (S : St v0 h0 v L s.heap m mu) (G : Gl w h0) (hf : fnIn (hd.heap_39 w.params) f = true)
    (h : wpAny (model PG w) A (spliced (backTo pos (starEach (e :: rest) env))) (fun vs s₁ => (∀ b o, h0.get? b = some o → s₁.heap.get? b = some o) ∧ wpAny (model PG w) A (call (.ref f) vs) Q E s₁) E s)
    (he : starEach (e :: rest) env = (false, eval e env) :: starEach rest env := by rfl) :
    wpAny (model PG w) A (callWith pos (.ref f) [] (backTo pos (starEach (e :: rest) env)) []) Q E s := by
  unfold fnIn at hf
  split at hf
  · rename_i fd _ ho
    rw [he] at h ⊢
    exact Calls.callWith_function (o := _) (fd := _) (Calls.evalArgs_plain (wpAny_mono h (fun vs s₁ h₁ => ⟨⟨h₁.1 _ _ (G.K _ _ ho), rfl⟩, by simpa using h₁.2⟩) fun _ _ x => x))
  · cases hf
end
local macro_rules | `(tactic| walk_at "eval Name") => `(tactic| first | (refine nmL ‹_› (by walk_at "m.map") ?_) | (refine nmC ‹_› (by rfl) (by walk_at "m.cell") ?_) | (refine nmX ‹_› ‹_› (by rfl) ?_))
local macro_rules | `(tactic| walk_at "storeName") => `(tactic| (refine stL ‹_› ?_; intro _ _ _ _; (try dsimp only)))
local macro_rules | `(tactic| walk_at "newTuple") => `(tactic| (refine nwT ‹_› ?_; intro _ _ _ _ _ _))
local macro_rules | `(tactic| walk_at "unpackItems ref") => `(tactic| (refine upk ‹_› (Am.hd ‹_›) ‹_› rfl ?_; intro _ _))
local macro_rules | `(tactic| walk_at "callWith ref") => `(tactic| (refine cwF ‹_› ‹_› (by kernel_rfl!) ?_))
local macro_rules | `(tactic| walk_at "m.sub") => `(tactic| first | exact Sub.refl _ | with_reducible assumption | (refine Sub.trans ?_ (by with_reducible assumption); walk_at "m.sub"))
local macro_rules | `(tactic| walk_at "And") => `(tactic| (refine ⟨(St.gr ‹_›).ext, ?_⟩))
local macro_rules | `(tactic| walk_at "m.num") => `(tactic| first | lia | assumption | decide)
local macro_rules | `(tactic| walk_at "loadName") => `(tactic| refine ldL ‹_› (by walk_at "m.map") ?_)
local macro_rules | `(tactic| walk_at "m.cell") => `(tactic| first | with_reducible assumption | exact CellAt.mono (by with_reducible assumption) (by walk_at "m.sub"))
local macro_rules | `(tactic| walk_at "m.map") => `(tactic| first | with_reducible assumption | rfl | (refine Eq.trans (if_neg (by decide)) ?_; walk_at "m.map"))

def RatAt (v : View) (x : Value) (q : Rat) : Prop := ∃ a n t u, x = .ref a ∧ v a = some { cls := .type "tuple", data := .seq [Value.int q.num t, Value.int q.den u].toArray n }
theorem RatAt.of {v : View} {a : Addr} {x y : Int} {t u : Tok} {q : Rat} (h : v a = some (tupO [.int x t, .int y u])) (hx : x = q.num) (hy : y = q.den) : RatAt v (.ref a) q := ⟨a, 0, t, u, rfl, by rw [← hx, ← hy]; exact h⟩
theorem RatAt.mono {v v' : View} {x : Value} {q : Rat} (h : RatAt v x q) (s : Sub v v') : RatAt v' x q := let ⟨a, n, t, u, e, y⟩ := h; ⟨a, n, t, u, e, s _ _ y⟩

def Base (v : View) : Prop := RatAt v (.ref 42) 0 ∧ RatAt v (.ref 43) 1
theorem Base.mono {v v' : View} (b : Base v) (s : Sub v v') : Base v' := ⟨b.1.mono s, b.2.mono s⟩
theorem St.base {v0 v : View} {h0 h : Heap} {L : Addr} {m : Str → Option Value} {mu : List (Addr × Obj)} (S : St v0 h0 v L h m mu) (b : Base v0) : Base v := b.mono S.gr.sub
theorem St.r0 {v0 v : View} {h0 h : Heap} {L : Addr} {m : Str → Option Value} {mu : List (Addr × Obj)} (S : St v0 h0 v L h m mu) (b : Base v0) : RatAt v (.ref 42) 0 := (S.base b).1
theorem St.r1 {v0 v : View} {h0 h : Heap} {L : Addr} {m : Str → Option Value} {mu : List (Addr × Obj)} (S : St v0 h0 v L h m mu) (b : Base v0) : RatAt v (.ref 43) 1 := (S.base b).2
local macro_rules | `(tactic| walk_at "m.rat") => `(tactic| first | with_reducible assumption | with_reducible exact St.r0 ‹_› ‹_› | with_reducible exact St.r1 ‹_› ‹_› | exact RatAt.mono (by with_reducible assumption) (by walk_at "m.sub"))
def Spec (w : World) (f : Addr) (n : Nat) (args : List Value) (v : View) (O : View → Value → Prop) : Prop :=
  ∀ (A : Around) (E : Value → Shared → Prop) (s : Shared) (Q : Value → Shared → Prop), Am A n → Gl w s.heap → (∀ b o, v b = some o → s.heap.get? b = some o) →
    Base v → (∀ r h' v' tk, Grow v s.heap v' h' → O v' r → Q r { s with heap := h', toks := tk }) → wpAny (model PG w) A (call (.ref f) args) Q E s
theorem callS {w : World} {A : Around} {E : Value → Shared → Prop} {s : Shared} {v0 v : View} {h0 : Heap} {L : Addr} {m : Str → Option Value} {mu : List (Addr × Obj)} {f : Addr} {n n' : Nat} {args : List Value} {O : View → Value → Prop} {Q : Value → Shared → Prop}
    (S : St v0 h0 v L s.heap m mu) (G : Gl w h0) (hA : Am A n') (hB : Base v0) (sp : Spec w f n args v O) (hn : n ≤ n')
    (k : ∀ r h' v' tk, St v0 h0 v' L h' m mu → Sub v v' → O v' r → Q r { s with heap := h', toks := tk }) : wpAny (model PG w) A (call (.ref f) args) Q E s :=
  sp A E s Q (hA.less hn) (S.gl G) S.gr.le (S.base hB) fun r h' v' tk g o => k r h' v' tk (S.grow g) g.sub o

local macro_rules | `(tactic| walk_at "call ref") => `(tactic| (refine callS ‹_› ‹_› ‹_› ‹_› (by walk_at "m.spec") (by decide) ?_; intro r' h' v' tk' S' hs' ho'; (try (obtain ⟨t', e'⟩ := ho'; subst e')); try dsimp only))
theorem gcd_ok {w : World} {v : View} {a b : Int} {t u : Tok} : Spec w 41 1 [.int a t, .int b u] v (fun _ r => ∃ t', r = .int (Int.gcd a b : Int) t') := by
  intro A E s Q hA hG hv hB k
  refine enter hA hG hv (by rfl) (by kernel_rfl!) (BindsTo.of_eq rfl) (locs rfl) ?_
  intro L h₁ tk env A' S hA'
  (try dsimp only)
  repeat' walk1
  rename St _ _ _ _ _ _ _ => S2
  refine whileS (fun k v m mu => ∃ x y t u, m (Str.ofString "a") = some (.int x t) ∧ m (Str.ofString "b") = some (.int y u) ∧ 0 ≤ x ∧ 0 ≤ y ∧ Int.gcd x y = Int.gcd a b ∧ k = y.toNat ∧ mu = []) S2 _ (ex4i _ _ _ _ ⟨rfl, rfl, ?_, ?_, ?_, rfl, rfl⟩) ?_
  · split <;> (first | lia | omega)
  · split <;> (first | lia | omega)
  · split <;> split <;> simp [Int.gcd]
  rintro kn v1 m1 mu1 h tk - hJ S3 TT hT
  refine ex4 hJ fun x y t u hK => ?_
  clear hJ
  refine and7 hK fun hx hy x0 y0 hg hk hmu => ?_
  clear hK
  subst hmu
  repeat' walk1
  · rename St _ _ _ _ _ _ _ => S4
    refine hT _ _ ⟨rfl, _, _, _, _, [], rfl, by walk_at "m.sub", S4, _, ?_, _, _, _, _, rfl, rfl, y0, ?_, ?_, rfl, rfl⟩
    · have := Int.fmod_lt_of_pos x (b := y) (by (first | lia | omega)); (first | lia | omega)
    · exact Int.fmod_nonneg_of_pos x (by (first | lia | omega))
    · rw [← hg, Int.fmod_eq_emod_of_nonneg x y0, Int.gcd_comm x y]
      have e := Int.gcd_add_mul_left_right y (x % y) (x / y)
      rw [Int.emod_add_mul_ediv] at e
      exact e.symm
  · rename y = 0 => hy0
    subst hy0
    have e : x = (Int.gcd a b : Int) := by rw [← hg]; simp [Int.gcd]; (first | lia | omega)
    subst e
    exact k _ _ _ _ S3.gr ⟨_, rfl⟩
local macro_rules | `(tactic| walk_at "m.spec") => `(tactic| exact gcd_ok)

theorem signed_gcd {a b : Int} (hb : b ≠ 0) : (if 0 < b then (Int.gcd a b : Int) else 0 - (Int.gcd a b : Int)) = b.sign * (Int.gcd a b : Int) := by
  rcases Int.lt_or_gt_of_ne hb with h | h
  · rw [if_neg (by (first | lia | omega)), Int.sign_eq_neg_one_of_neg h]; (first | lia | omega)
  · rw [if_pos h, Int.sign_eq_one_of_pos h]; (first | lia | omega)
theorem gcd_pos' {a b : Int} (hb : b ≠ 0) : 0 < (Int.gcd a b : Int) := by
  have : Int.gcd a b ≠ 0 := fun e => hb (Int.gcd_eq_zero_iff.mp e).2
  (first | lia | omega)
theorem rat_num {a b : Int} (hb : b ≠ 0) : a.fdiv (b.sign * (Int.gcd a b : Int)) = (Rat.divInt a b).num := by
  have hg := gcd_pos' (a := a) hb
  rw [Rat.num_divInt, Int.gcd_comm b a]
  obtain ⟨c, hc⟩ := Int.gcd_dvd_left (a := a) (b := b)
  generalize (Int.gcd a b : Int) = g at *
  subst hc
  rcases Int.lt_or_gt_of_ne hb with h | h
  · rw [Int.sign_eq_neg_one_of_neg h, show -1 * (g * c) = g * (-c) by rw [Int.mul_neg]; (first | lia | omega), Int.mul_ediv_cancel_left _ (by (first | lia | omega)), show g * c = (-1 * g) * (-c) by rw [Int.mul_neg, Int.neg_mul, Int.one_mul, Int.neg_mul, Int.neg_neg], Int.mul_fdiv_cancel_left _ (by (first | lia | omega))]
  · rw [Int.sign_eq_one_of_pos h, Int.one_mul, Int.one_mul, Int.mul_ediv_cancel_left _ (by (first | lia | omega)), Int.mul_fdiv_cancel_left _ (by (first | lia | omega))]
theorem rat_den {a b : Int} (hb : b ≠ 0) : b.fdiv (b.sign * (Int.gcd a b : Int)) = ((Rat.divInt a b).den : Int) := by
  have hg := gcd_pos' (a := a) hb
  rw [Rat.den_divInt, if_neg hb, Int.gcd_comm b a, Int.natCast_ediv]
  obtain ⟨c, hc⟩ := Int.gcd_dvd_right (a := a) (b := b)
  generalize (Int.gcd a b : Int) = g at *
  rcases Int.lt_or_gt_of_ne hb with h | h
  · rw [show (b.natAbs : Int) = -b by (first | lia | omega), Int.sign_eq_neg_one_of_neg h, hc, show -(g * c) = g * -c by rw [Int.mul_neg], Int.mul_ediv_cancel_left _ (by (first | lia | omega)), show g * c = (-1 * g) * -c by rw [Int.mul_neg, Int.neg_mul, Int.one_mul, Int.neg_mul, Int.neg_neg], Int.mul_fdiv_cancel_left _ (by (first | lia | omega))]
  · rw [show (b.natAbs : Int) = b by (first | lia | omega), Int.sign_eq_one_of_pos h, Int.one_mul, hc, Int.mul_ediv_cancel_left _ (by (first | lia | omega)), Int.mul_fdiv_cancel_left _ (by (first | lia | omega))]

section
variable {w : World} {A : Around} {E : Value → Shared → Prop} {s : Shared} {v0 v : View} {h0 : Heap} {L : Addr} {m : Str → Option Value} {mu : List (Addr × Obj)} {env : Env}
theorem floS {a b : Int} {t u : Tok} {n : Nat} {Q : Value → Shared → Prop} (S : St v0 h0 v L s.heap m mu) (G : Gl w h0) (hA : Am A n) (hb : b ≠ 0) (h : Q (.int (a.fdiv b) s.toks) { s with toks := s.toks + 1 }) :
    wpAny (model PG w) A (binaryOp .FloorDiv (.int a t) (.int b u)) Q E s := floordiv_int hb h (.inr (hA.py w s (S.gl G)))
theorem ratItem {value slice : Expr} {x : Value} {q : Rat} {k : Int} {u : Tok} {Q : Value → Shared → Prop} (S : St v0 h0 v L s.heap m mu) (hx : RatAt v x q) (hk : k = 0 ∨ k = 1)
    (h : ∀ t, Q (.int (if k = 0 then q.num else (q.den : Int)) t) s)
    (hs : ∀ a, subscripted slice false (.ref a) (.int k u) = operate [.ref a, .int k u] (getItem (.ref a) (.int k u)) := by intro _; with_unfolding_all rfl) :
    wpAny (model PG w) A (subscriptTail value slice x (.int k u)) Q E s := by
  obtain ⟨a, n, t, u', rfl, ha⟩ := hx
  rcases hk with rfl | rfl
  · exact item_tupleT (isTup_of (S.gr.le _ _ ha)) (by decide) (by decide) (j := 0) rfl rfl (h t) (hs a)
  · exact item_tupleT (isTup_of (S.gr.le _ _ ha)) (by decide) (by decide) (j := 1) rfl rfl (h u') (hs a)
theorem ratN {value slice : Expr} {x : Value} {q : Rat} {u : Tok} {Q : Value → Shared → Prop} (S : St v0 h0 v L s.heap m mu) (hx : RatAt v x q) (h : ∀ t, Q (.int q.num t) s)
    (hs : ∀ a, subscripted slice false (.ref a) (.int 0 u) = operate [.ref a, .int 0 u] (getItem (.ref a) (.int 0 u)) := by intro _; with_unfolding_all rfl) :
    wpAny (model PG w) A (subscriptTail value slice x (.int 0 u)) Q E s := ratItem S hx (.inl rfl) h hs
theorem ratD {value slice : Expr} {x : Value} {q : Rat} {u : Tok} {Q : Value → Shared → Prop} (S : St v0 h0 v L s.heap m mu) (hx : RatAt v x q) (h : ∀ t, Q (.int q.den t) s)
    (hs : ∀ a, subscripted slice false (.ref a) (.int 1 u) = operate [.ref a, .int 1 u] (getItem (.ref a) (.int 1 u)) := by intro _; with_unfolding_all rfl) :
    wpAny (model PG w) A (subscriptTail value slice x (.int 1 u)) Q E s := ratItem S hx (.inr rfl) h hs
end

local macro_rules | `(tactic| walk_at "binaryOp FloorDiv int int") => `(tactic| (refine floS ‹_› ‹_› ‹_› (by walk_at "m.num") ?_))
local macro_rules | `(tactic| walk_at "subscriptTail Name Constant") => `(tactic| first | (refine ratN ‹_› (by walk_at "m.rat") ?_; intro _) | (refine ratD ‹_› (by walk_at "m.rat") ?_; intro _))
theorem rat_ok {w : World} {v : View} {a b : Int} {t u : Tok} (hb : b ≠ 0) : Spec w 50 2 [.int a t, .int b u] v (fun v' r => RatAt v' r (Rat.divInt a b)) := by
  intro A E s Q hA hG hv hB k
  have hg := gcd_pos' (a := a) hb
  have en := rat_num (a := a) hb
  have ed := rat_den (a := a) hb
  rw [← signed_gcd hb] at en ed
  refine enter hA hG hv (by rfl) (by kernel_rfl!) (BindsTo.of_eq rfl) (locs rfl) ?_
  intro L h₁ tk env A' S hA'
  (try dsimp only)
  repeat' walk1
  all_goals first | (exact absurd (by assumption) hb) | skip
  · rename (0 < b) => hp
    rw [if_pos hp] at en ed
    exact k _ _ _ _ (St.gr (by assumption)) (RatAt.of (by assumption) en ed)
  · rename (¬ 0 < b) => hp
    rw [if_neg hp] at en ed
    exact k _ _ _ _ (St.gr (by assumption)) (RatAt.of (by assumption) en ed)

local macro_rules | `(tactic| walk_at "m.spec") => `(tactic| exact rat_ok (by walk_at "m.num"))

def Hb (n : Nat) (q : Rat) : Prop := q.num.natAbs < 2 ^ n ∧ q.den < 2 ^ n
theorem intBits_le {x : Int} {n : Nat} (h : x.natAbs < 2 ^ n) : Builtin.Int.intBits x ≤ n := by
  unfold Builtin.Int.intBits
  split
  · exact Nat.zero_le _
  · rename_i hx
    have hx' : x.natAbs ≠ 0 := by simpa using hx
    have := (Nat.log2_lt hx').mpr h
    (first | lia | omega)
theorem mulOk {a b : Int} {n k : Nat} (ha : a.natAbs < 2 ^ n) (hb : b.natAbs < 2 ^ k) (h : n + k ≤ 134217728) : IntMulOk a b := by
  have h1 := intBits_le ha
  have h2 := intBits_le hb
  have h3 : Builtin.Int.intTooBig (Builtin.Int.intBits a + Builtin.Int.intBits b) = false := by
    unfold Builtin.Int.intTooBig
    rw [bitsLine_eq]
    exact decide_eq_false (by (first | lia | omega))
  unfold IntMulOk
  rw [h3]; simp
theorem Hb.num {n : Nat} {q : Rat} (h : Hb n q) : q.num.natAbs < 2 ^ n := h.1
theorem Hb.den {n : Nat} {q : Rat} (h : Hb n q) : ((q.den : Int)).natAbs < 2 ^ n := by simpa using h.2
theorem Hb.mono {n k : Nat} {q : Rat} (h : Hb n q) (e : n ≤ k) : Hb k q := by
  have := Nat.pow_le_pow_right (n := 2) (by (first | lia | omega)) e
  exact ⟨Nat.lt_of_lt_of_le h.1 this, Nat.lt_of_lt_of_le h.2 this⟩
local macro_rules | `(tactic| walk_at "binaryOp Mult int int") => `(tactic| (refine mul_int ?_ (by first | exact mulOk (Hb.num ‹_›) (Hb.num ‹_›) (by lia) | exact mulOk (Hb.num ‹_›) (Hb.den ‹_›) (by lia) | exact mulOk (Hb.den ‹_›) (Hb.num ‹_›) (by lia) | exact mulOk (Hb.den ‹_›) (Hb.den ‹_›) (by lia))))
theorem den_ne (q : Rat) : (q.den : Int) ≠ 0 := by have := q.den_nz; (first | lia | omega)

theorem rat_add (a b : Rat) : Rat.divInt (a.num * b.den + b.num * a.den) (a.den * b.den) = a + b := by
  conv => rhs; rw [← Rat.num_divInt_den a, ← Rat.num_divInt_den b]
  rw [Rat.divInt_add_divInt _ _ (den_ne a) (den_ne b)]
theorem rat_mul (a b : Rat) : Rat.divInt (a.num * b.num) (a.den * b.den) = a * b := by
  conv => rhs; rw [← Rat.num_divInt_den a, ← Rat.num_divInt_den b]
  rw [Rat.divInt_mul_divInt]
theorem rat_inv (a : Rat) : Rat.divInt a.den a.num = a⁻¹ := by
  conv => rhs; rw [← Rat.num_divInt_den a]
  rw [Rat.inv_divInt]
theorem rat_div (a b : Rat) : Rat.divInt (a.num * b.den) (a.den * b.num) = a / b := by
  rw [Rat.div_def, ← rat_inv b]
  conv => rhs; rw [← Rat.num_divInt_den a]
  rw [Rat.divInt_mul_divInt]

theorem radd_ok {w : World} {v : View} {x y : Value} {a b : Rat} {n : Nat} (hx : RatAt v x a) (hy : RatAt v y b) (ha : Hb n a) (hb : Hb n b) (hn : n ≤ 67108864) : Spec w 57 3 [x, y] v (fun v' r => RatAt v' r (a + b)) := by
  intro A E s Q hA hG hv hB k
  have hd : (a.den : Int) * b.den ≠ 0 := Int.mul_ne_zero (den_ne a) (den_ne b)
  refine enter hA hG hv (by rfl) (by kernel_rfl!) (BindsTo.of_eq rfl) (locs rfl) ?_
  intro L h₁ tk env A' S hA'
  (try dsimp only)
  repeat' walk1
  exact k _ _ _ _ (St.gr (by assumption)) (by rw [← rat_add a b]; assumption)
local macro_rules | `(tactic| walk_at "m.spec") => `(tactic| exact radd_ok (by walk_at "m.rat") (by walk_at "m.rat") ‹_› ‹_› (by lia))

theorem rmul_ok {w : World} {v : View} {x y : Value} {a b : Rat} {n k : Nat} (hx : RatAt v x a) (hy : RatAt v y b) (ha : Hb n a) (hb : Hb k b) (hn : n + k ≤ 134217728) : Spec w 64 3 [x, y] v (fun v' r => RatAt v' r (a * b)) := by
  intro A E s Q hA hG hv hB k
  have hd : (a.den : Int) * b.den ≠ 0 := Int.mul_ne_zero (den_ne a) (den_ne b)
  refine enter hA hG hv (by rfl) (by kernel_rfl!) (BindsTo.of_eq rfl) (locs rfl) ?_
  intro L h₁ tk env A' S hA'
  (try dsimp only)
  repeat' walk1
  exact k _ _ _ _ (St.gr (by assumption)) (by rw [← rat_mul a b]; assumption)

theorem rdiv_ok {w : World} {v : View} {x y : Value} {a b : Rat} {n k : Nat} (hx : RatAt v x a) (hy : RatAt v y b) (ha : Hb n a) (hb : Hb k b) (hn : n + k ≤ 134217728) (h0 : b ≠ 0) : Spec w 71 3 [x, y] v (fun v' r => RatAt v' r (a / b)) := by
  intro A E s Q hA hG hv hB k
  have hd : (a.den : Int) * b.num ≠ 0 := Int.mul_ne_zero (den_ne a) (fun e => h0 (Rat.num_eq_zero.mp e))
  refine enter hA hG hv (by rfl) (by kernel_rfl!) (BindsTo.of_eq rfl) (locs rfl) ?_
  intro L h₁ tk env A' S hA'
  (try dsimp only)
  repeat' walk1
  exact k _ _ _ _ (St.gr (by assumption)) (by rw [← rat_div a b]; assumption)

theorem rneg_ok {w : World} {v : View} {x : Value} {a : Rat} (hx : RatAt v x a) : Spec w 78 1 [x] v (fun v' r => RatAt v' r (-a)) := by
  intro A E s Q hA hG hv hB k
  refine enter hA hG hv (by rfl) (by kernel_rfl!) (BindsTo.of_eq rfl) (locs rfl) ?_
  intro L h₁ tk env A' S hA'
  (try dsimp only)
  repeat' walk1
  exact k _ _ _ _ (St.gr (by assumption)) (RatAt.of (by assumption) (by rw [Rat.neg_num]; (first | lia | omega)) rfl)

theorem rinv_ok {w : World} {v : View} {x : Value} {a : Rat} (hx : RatAt v x a) (h0 : a ≠ 0) : Spec w 85 3 [x] v (fun v' r => RatAt v' r (a⁻¹)) := by
  intro A E s Q hA hG hv hB k
  have hd : a.num ≠ 0 := fun e => h0 (Rat.num_eq_zero.mp e)
  refine enter hA hG hv (by rfl) (by kernel_rfl!) (BindsTo.of_eq rfl) (locs rfl) ?_
  intro L h₁ tk env A' S hA'
  (try dsimp only)
  repeat' walk1
  exact k _ _ _ _ (St.gr (by assumption)) (by rw [← rat_inv a]; assumption)
local macro_rules | `(tactic| walk_at "m.spec") => `(tactic| first | exact rmul_ok (by walk_at "m.rat") (by walk_at "m.rat") ‹_› ‹_› (by lia) | exact rdiv_ok (by walk_at "m.rat") (by walk_at "m.rat") ‹_› ‹_› (by lia) ‹_› | exact rneg_ok (by walk_at "m.rat") | exact rinv_ok (by walk_at "m.rat") ‹_›)

inductive Vals (v : View) : List Value → List Rat → Prop
  | nil : Vals v [] []
  | cons {x : Value} {q : Rat} {xs : List Value} {p : List Rat} : RatAt v x q → Vals v xs p → Vals v (x :: xs) (q :: p)
theorem Vals.mono {v v' : View} {xs : List Value} {p : List Rat} (h : Vals v xs p) (s : Sub v v') : Vals v' xs p := by
  induction h with
  | nil => exact .nil
  | cons h _ ih => exact .cons (h.mono s) ih
theorem Vals.length {v : View} {xs : List Value} {p : List Rat} (h : Vals v xs p) : xs.length = p.length := by
  induction h with
  | nil => rfl
  | cons _ _ ih => rw [List.length_cons, List.length_cons, ih]
theorem Vals.get {v : View} {xs : List Value} {p : List Rat} (h : Vals v xs p) : ∀ {i : Nat} {q : Rat}, p[i]? = some q → ∃ x, xs[i]? = some x ∧ RatAt v x q := by
  induction h with
  | nil => intro i q e; cases e
  | cons h _ ih =>
    intro i q e
    cases i with
    | zero => cases e; exact ⟨_, rfl, h⟩
    | succ i => exact ih e
theorem Vals.item {v : View} {xs : List Value} {p : List Rat} (h : Vals v xs p) : ∀ {i : Nat} {x : Value}, xs[i]? = some x → ∃ q, p[i]? = some q ∧ RatAt v x q := by
  induction h with
  | nil => intro i q e; cases e
  | cons h _ ih =>
    intro i q e
    cases i with
    | zero => cases e; exact ⟨_, rfl, h⟩
    | succ i => exact ih e
theorem Vals.append {v : View} {xs ys : List Value} {p q : List Rat} (h : Vals v xs p) (k : Vals v ys q) : Vals v (xs ++ ys) (p ++ q) := by
  induction h with
  | nil => exact k
  | cons h _ ih => exact .cons h ih
theorem Vals.take {v : View} {xs : List Value} {p : List Rat} (h : Vals v xs p) : ∀ n, Vals v (xs.take n) (p.take n) := by
  induction h with
  | nil => intro n; simp; exact .nil
  | cons h _ ih =>
    intro n
    cases n with
    | zero => exact .nil
    | succ n => exact .cons h (ih n)
theorem Vals.replicate {v : View} {x : Value} {q : Rat} (h : RatAt v x q) : ∀ n, Vals v (List.replicate n x) (List.replicate n q)
  | 0 => .nil
  | n + 1 => .cons h (Vals.replicate h n)
theorem Vals.set {v : View} {xs : List Value} {p : List Rat} {x : Value} {q : Rat} (h : Vals v xs p) (k : RatAt v x q) : ∀ i, Vals v (xs.set i x) (p.set i q) := by
  induction h with
  | nil => intro i; exact .nil
  | cons h r ih =>
    intro i
    cases i with
    | zero => exact .cons k r
    | succ i => exact .cons h (ih i)
theorem Vals.one {v : View} {x : Value} {q : Rat} (h : RatAt v x q) : Vals v [x] [q] := .cons h .nil

def PolyAt (v : View) (x : Value) (p : List Rat) : Prop := ∃ a n xs, x = .ref a ∧ v a = some { cls := .type "list", data := .seq (List.toArray xs) n } ∧ Vals v xs p
theorem PolyAt.mono {v v' : View} {x : Value} {p : List Rat} (h : PolyAt v x p) (s : Sub v v') : PolyAt v' x p := let ⟨a, n, xs, e, y, z⟩ := h; ⟨a, n, xs, e, s _ _ y, z.mono s⟩
theorem PolyAt.of {v : View} {a : Addr} {xs : List Value} {p : List Rat} (h : v a = some (lstO xs)) (k : Vals v xs p) : PolyAt v (.ref a) p := ⟨a, 0, xs, rfl, h, k⟩
local macro_rules | `(tactic| walk_at "m.poly") => `(tactic| first | with_reducible assumption | exact PolyAt.mono (by with_reducible assumption) (by walk_at "m.sub"))
abbrev Short (p : List Rat) : Prop := p.length ≤ 1000000

section
variable {w : World} {A : Around} {E : Value → Shared → Prop} {s : Shared} {v0 v : View} {h0 : Heap} {L : Addr} {m : Str → Option Value} {mu : List (Addr × Obj)} {env : Env}
theorem polyLen {x : Value} {p : List Rat} {Q : Value → Shared → Prop} (S : St v0 h0 v L s.heap m mu) (hx : PolyAt v x p) (hs : Short p)
    (h : ∀ t tk, Q (.int p.length t) { s with toks := tk }) : wpAny (model PG w) A (call (.builtin "len") [x]) Q E s := by
  obtain ⟨a, n, xs, rfl, ha, hv⟩ := hx
  have e := hv.length
  refine len_list (isLst_of (S.gr.le _ _ ha)) (by rw [List.size_toArray]; (first | lia | omega)) ?_
  rw [List.size_toArray, e]
  exact h _ _
theorem polyItem {value slice : Expr} {x : Value} {p : List Rat} {k : Int} {u : Tok} {q : Rat} {Q : Value → Shared → Prop} (S : St v0 h0 v L s.heap m mu) (hx : PolyAt v x p) (hs : Short p) (h0' : 0 ≤ k) (hq : p[k.toNat]? = some q)
    (h : ∀ y, RatAt v y q → Q y s)
    (hss : ∀ a, subscripted slice false (.ref a) (.int k u) = operate [.ref a, .int k u] (getItem (.ref a) (.int k u)) := by intro _; with_unfolding_all rfl) :
    wpAny (model PG w) A (subscriptTail value slice x (.int k u)) Q E s := by
  obtain ⟨a, n, xs, rfl, ha, hv⟩ := hx
  obtain ⟨y, hy, hr⟩ := hv.get hq
  have hl := isLst_of (S.gr.le _ _ ha)
  have hlt := (List.getElem?_eq_some_iff.mp hq).1
  exact tail_any hl.typeIs slot_list_getitem.lookup (wpAny_getItem_list hl h0' (by (first | lia | omega)) (by simpa using hy) (h y hr)) (hss a)
theorem polyGet {value slice : Expr} {x : Value} {p : List Rat} {k : Nat} {u : Tok} {Q : Value → Shared → Prop} (S : St v0 h0 v L s.heap m mu) (hx : PolyAt v x p) (hs : Short p) (hk : k < p.length)
    (h : ∀ y, RatAt v y (p[k]?.getD 0) → Q y s)
    (hss : ∀ a, subscripted slice false (.ref a) (.int (k : Int) u) = operate [.ref a, .int (k : Int) u] (getItem (.ref a) (.int (k : Int) u)) := by intro _; with_unfolding_all rfl) :
    wpAny (model PG w) A (subscriptTail value slice x (.int (k : Int) u)) Q E s := by
  refine polyItem (q := p[k]?.getD 0) S hx hs (Int.natCast_nonneg k) ?_ h hss
  rw [Int.toNat_natCast, List.getElem?_eq_getElem hk]
  rfl
theorem polyLast {value slice : Expr} {x : Value} {p : List Rat} {u : Tok} {q : Rat} {Q : Value → Shared → Prop} (S : St v0 h0 v L s.heap m mu) (hx : PolyAt v x p) (hq : p.getLast? = some q)
    (h : ∀ y, RatAt v y q → Q y s)
    (hss : ∀ a, subscripted slice false (.ref a) (.int (-1) u) = operate [.ref a, .int (-1) u] (getItem (.ref a) (.int (-1) u)) := by intro _; with_unfolding_all rfl) :
    wpAny (model PG w) A (subscriptTail value slice x (.int (-1) u)) Q E s := by
  obtain ⟨a, n, xs, rfl, ha, hv⟩ := hx
  rw [List.getLast?_eq_getElem?] at hq
  obtain ⟨y, hy, hr⟩ := hv.get hq
  have hl := isLst_of (S.gr.le _ _ ha)
  have e := hv.length
  have hlt := (List.getElem?_eq_some_iff.mp hq).1
  refine tail_any hl.typeIs slot_list_getitem.lookup (wpAny_getItem_list_neg hl (by decide) (by rw [List.size_toArray]; (first | lia | omega)) (by decide) ?_ (h y hr)) (hss a)
  rw [List.size_toArray, e, ar2 p.length]
  simpa using hy
theorem slicePick_neg1 (items : List Value) : slicePick items.toArray none (some (-1)) none = (items.take (items.length - 1)).toArray := by
  have e : sliceBounds none (some (-1)) none items.toArray.size = (((0 : Nat) : Int), ((items.length - 1 : Nat) : Int), 1) := by
    simp only [sliceBounds, Option.getD_none, List.size_toArray]
    simp only [show (-1 : Int) < 0 by decide, show (1 : Int) > 0 by decide, if_true]
    congr 1
    congr 1; exact ar14 _
  unfold slicePick
  rw [e]
  simp only [sliceRange_one, pick_run]
  simp
theorem slicePick_to (items : List Value) (k : Int) (hk : 0 ≤ k) : slicePick items.toArray none (some k) none = (items.take k.toNat).toArray := by
  have e : sliceBounds none (some k) none items.toArray.size = (((0 : Nat) : Int), ((min k.toNat items.length : Nat) : Int), 1) := by
    simp only [sliceBounds, Option.getD_none, List.size_toArray]
    have h2 : ¬ (k < 0) := by (first | lia | omega)
    simp only [h2, show (1 : Int) > 0 by decide, if_true, if_false]
    congr 1
    congr 1; exact ar13 _ hk _
  unfold slicePick
  rw [e]
  simp only [sliceRange_one, pick_run]
  simp
theorem sliceRow {value slice : Expr} {a : Addr} {n : Nat} {xs ys : List Value} {k : Int} {u : Tok} {Q : Value → Shared → Prop} (S : St v0 h0 v L s.heap m mu) (ha : v a = some { cls := .type "list", data := .seq xs.toArray n }) (hs : xs.length ≤ 1000000)
    (e : slicePick xs.toArray none (some k) none = ys.toArray)
    (h : ∀ b v' h', St v0 h0 v' L h' m mu → Sub v v' → v' b = some (lstO ys) → Q (.ref b) { s with heap := h' })
    (hss : subscripted slice false (.ref a) (.ref s.heap.objs.size) = operate [.ref s.heap.objs.size, .ref a] (getItem (.ref a) (.ref s.heap.objs.size)) := by with_unfolding_all rfl)
    (ht : ∀ r, letTemporaryGo value (.ref a) r = pure () := by intro _; with_unfolding_all rfl) :
    wpAny (model PG w) A (subscriptTail value slice (.ref a) (.ref s.heap.objs.size)) Q E { s with heap := s.heap.push { cls := .type "slice", data := .fields #[.none, .int k u, .none] } } := by
  have hl := isLst_of (S.gr.le _ _ ha)
  have S1 := S.more (h' := s.heap.push { cls := .type "slice", data := .fields #[.none, .int k u, .none] }) fun b o e => Heap.get?_push_of_some _ e
  refine subscriptTail_ops (Heap.IsList.typeIs (s := { s with heap := s.heap.push { cls := .type "slice", data := .fields #[.none, .int k u, .none] } }) (hl.push _)) list_getitem_lookup
    (wpAny_getItem_list_slice (hl.push _) (Heap.IsSliceOf.new ..) .none (.int k u) .none (by simp) ?_ (by rw [List.size_toArray, sizeLine_eq]; (first | lia | omega))) hss ht
  rw [e]
  exact h _ _ _ (S1.push _) (S1.subPush _) (addV_self _ _ _)
theorem polyTake {h1 : Heap} {e1 : Array GenState} {e2 : Drawn} {e3 : Nat} {e4 : OsState} {value slice : Expr} {x : Value} {p : List Rat} {k : Int} {u : Tok} {Q : Value → Shared → Prop} (S : St v0 h0 v L h1 m mu) (hx : PolyAt v x p) (hs : Short p)
    (h : ∀ r v' h', St v0 h0 v' L h' m mu → Sub v v' → PolyAt v' r (p.take k.toNat) → Q r ⟨h', e1, e2, e3, e4⟩) (hk : 0 ≤ k := by lia)
    (hss : ∀ a, subscripted slice false (.ref a) (.ref h1.objs.size) = operate [.ref h1.objs.size, .ref a] (getItem (.ref a) (.ref h1.objs.size)) := by intro _; with_unfolding_all rfl)
    (ht : ∀ a r, letTemporaryGo value (.ref a) r = pure () := by intro _ _; with_unfolding_all rfl) :
    wpAny (model PG w) A (subscriptTail value slice x (.ref h1.objs.size)) Q E ⟨h1.push { cls := .type "slice", data := .fields #[.none, .int k u, .none] }, e1, e2, e3, e4⟩ := by
  obtain ⟨a, n, xs, rfl, ha, hv⟩ := hx
  exact sliceRow (s := ⟨h1, e1, e2, e3, e4⟩) S ha (by rw [hv.length]; exact hs) (slicePick_to xs k hk) (fun b v' h' S' hs' hb => h _ v' h' S' hs' (PolyAt.of hb ((hv.take _).mono hs'))) (hss a) (ht a)
theorem polyInit {h1 : Heap} {e1 : Array GenState} {e2 : Drawn} {e3 : Nat} {e4 : OsState} {value slice : Expr} {x : Value} {p : List Rat} {u : Tok} {Q : Value → Shared → Prop} (S : St v0 h0 v L h1 m mu) (hx : PolyAt v x p) (hs : Short p)
    (h : ∀ r v' h', St v0 h0 v' L h' m mu → Sub v v' → PolyAt v' r p.dropLast → Q r ⟨h', e1, e2, e3, e4⟩)
    (hss : ∀ a, subscripted slice false (.ref a) (.ref h1.objs.size) = operate [.ref h1.objs.size, .ref a] (getItem (.ref a) (.ref h1.objs.size)) := by intro _; with_unfolding_all rfl)
    (ht : ∀ a r, letTemporaryGo value (.ref a) r = pure () := by intro _ _; with_unfolding_all rfl) :
    wpAny (model PG w) A (subscriptTail value slice x (.ref h1.objs.size)) Q E ⟨h1.push { cls := .type "slice", data := .fields #[.none, .int (-1) u, .none] }, e1, e2, e3, e4⟩ := by
  obtain ⟨a, n, xs, rfl, ha, hv⟩ := hx
  refine sliceRow (s := ⟨h1, e1, e2, e3, e4⟩) S ha (by rw [hv.length]; exact hs) (slicePick_neg1 xs) (fun b v' h' S' hs' hb => h _ v' h' S' hs' (PolyAt.of hb ?_)) (hss a) (ht a)
  rw [List.dropLast_eq_take, hv.length]
  exact (hv.take _).mono hs'
theorem polyList {x : Value} {p : List Rat} {Q : Value → Shared → Prop} (S : St v0 h0 v L s.heap m mu) (hx : PolyAt v x p) (hs : Short p)
    (h : ∀ r v' h', St v0 h0 v' L h' m mu → Sub v v' → PolyAt v' r p → Q r { s with heap := h' }) : wpAny (model PG w) A (call (.type "list") [x]) Q E s := by
  obtain ⟨a, n, xs, rfl, ha, hv⟩ := hx
  have hl := hv.length
  refine call_list_seq a (.inl rfl) (S.gr.le _ _ ha) rfl rfl (fun h' c' k e => ?_) (by rw [List.size_toArray, sizeLine_eq]; (first | lia | omega))
  have n0 := size_none s.heap
  have S1 := S.more k
  have S2 : St v0 h0 v L h' m ((s.heap.objs.size, { cls := .type "list", dict := none, data := .seq xs.toArray c', slots := #[] }) :: mu) := by
    refine ⟨S1.gr, S1.ns, S1.newL, S1.hidL, fun p hp => ?_, ?_⟩
    · rcases List.mem_cons.mp hp with rfl | hp
      · exact ⟨e, S.neL n0, S.h0none n0, S.vnone n0⟩
      · exact S1.mus p hp
    · refine List.nodup_cons.mpr ⟨fun hm => ?_, S.nd⟩
      obtain ⟨p, hp, e⟩ := List.mem_map.mp hm
      have := (S.mus p hp).1
      rw [e] at this; dsimp only at this; rw [n0] at this; cases this
  exact h _ _ _ S2.freeze S2.subFreeze ⟨_, c', xs, rfl, addV_self _ _ _, hv.mono S2.subFreeze⟩
theorem polyNil {Q : Value → Shared → Prop} (S : St v0 h0 v L s.heap m mu)
    (h : ∀ r v' h', St v0 h0 v' L h' m mu → Sub v v' → PolyAt v' r [] → Q r { s with heap := h' }) : wpAny (model PG w) A (newList []) Q E s :=
  nwL S (fun a v' h' S' hs ha => h _ v' h' S' hs (PolyAt.of ha .nil)) (by decide)
theorem mulM {a : Addr} {n : Nat} {y : Value} {x : Int} {u : Tok} {Q : Value → Shared → Prop} (S : St v0 h0 v L s.heap m mu) (ha : v a = some { cls := .type "list", data := .seq [y].toArray n }) (hx : x < 1000000)
    (h : ∀ b h', St v0 h0 v L h' m ((b, lstO (List.replicate x.toNat y)) :: mu) → Q (.ref b) { s with heap := h' })
    (hlo : -(2 ^ 63 : Int) ≤ x := by (first | lia | omega)) : wpAny (model PG w) A (binaryOp .Mult (.ref a) (.int x u)) Q E s := by
  have ho := S.gr.le _ _ ha
  refine wpAny_binaryOp_repeat_ref (T := "list") (U := "int") (by decide) ⟨_, ho, rfl⟩ (fun s' => typeIs_int s' x u) noFill_list_mul F.fills_int_mul F.slot_int_rmul repeat_list F.slot_int_index.lookup
    (call_meets F.slot_int_rmul (typeIs_int s x u) F.entry_int_rmul (F.args_int_rmul_2 _ _) (lm_int_rmul_list_any x u a [y].toArray n none #[])
      ⟨ho, rfl, ⟨_, ho, rfl⟩, call_meets F.slot_list_mul ⟨_, ho, rfl⟩ F.entry_list_mul (F.args_list_mul_2 _ _)
        (lm_list_mul_any a [y].toArray n none #[] x u (by simp [Builtin.List.listFitsIndex]; (first | lia | omega)) (by simp; (first | lia | omega)) (by simp [Builtin.List.listTooLong, sizeLine]; (first | lia | omega)))
        ⟨ho, ?_⟩⟩)
  have S1 := S.pushMu { cls := Value.type "list", data := Data.seq (List.foldl (fun x1 x2 => x1 ++ x2) #[] (List.replicate (if [y].toArray.isEmpty = true then 0 else x.toNat) [y].toArray)) }
  rw [listMul_foldl_if] at S1
  rw [listMul_foldl_if]
  have e : (List.replicate x.toNat [y]).flatten = List.replicate x.toNat y := by
    generalize x.toNat = k
    induction k with
    | zero => rfl
    | succ k ih => rw [List.replicate_succ, List.flatten_cons, ih, List.replicate_succ]; rfl
  rw [e] at S1 ⊢
  exact h _ _ S1
end
section
variable {w : World} {A : Around} {E : Value → Shared → Prop} {s : Shared} {v0 v : View} {h0 : Heap} {L : Addr} {m : Str → Option Value} {mu : List (Addr × Obj)} {env : Env}
theorem lenNm {x : Str} {val : Value} {p : List Rat} {pl px pos : Pos} {Q : Value → Shared → Prop} (S : St v0 h0 v L s.heap m mu) (G : Gl w h0) (hv : m x = some val) (hp : PolyAt v val p) (hs : Short p)
    (h : ∀ t tk, Q (.int p.length t) { s with toks := tk })
    (hL : env.locals = L := by rfl) (hk : env.scope.kind = .function := by rfl) (hx : env.kindOf x = some .local := by rfl) (hl : env.kindOf (Str.ofString "len") = some .globalImplicit := by rfl) (hg : env.globals = mainGlobals := by rfl) (hb : env.builtins = builtinsNs := by rfl) (hd : (x == ("__debug__" : Str)) = false := by decide) :
    wpAny (model PG w) A (eval (.Call (.Name (Str.ofString "len") pl) [.Name x px] [] pos) env) Q E s := by
  refine PyProof.Rows.Call_ ?_
  refine nmX S G (by rfl) ?_ hk hl hg hb
  refine PyProof.Rows.callWith_builtin1 ?_
  refine PyProof.Rows.args_cons ?_
  refine nmL S hv ?_ hL hk hx hd
  refine PyProof.Rows.args_nil ?_
  exact polyLen S hp hs h
theorem callNm2 {f : Addr} {n n' : Nat} {fn x1 x2 : Str} {u1 u2 : Value} {O : View → Value → Prop} {pf p1 p2 pos : Pos} {Q : Value → Shared → Prop} (S : St v0 h0 v L s.heap m mu) (G : Gl w h0) (hA : Am A n') (hB : Base v0)
    (hfn : tv fn = some (.ref f)) (hf : fnIn (hd.heap_39 w.params) f = true) (hv1 : m x1 = some u1) (hv2 : m x2 = some u2) (sp : Spec w f n [u1, u2] v O) (hn : n ≤ n')
    (k : ∀ r h' v' tk, St v0 h0 v' L h' m mu → Sub v v' → O v' r → Q r { s with heap := h', toks := tk })
    (hL : env.locals = L := by rfl) (hk : env.scope.kind = .function := by rfl) (hg : env.globals = mainGlobals := by rfl) (hb : env.builtins = builtinsNs := by rfl) (hkf : env.kindOf fn = some .globalImplicit := by rfl) (hdf : (fn == ("__debug__" : Str)) = false := by decide)
    (hx1 : env.kindOf x1 = some .local := by rfl) (hx2 : env.kindOf x2 = some .local := by rfl) (hd1 : (x1 == ("__debug__" : Str)) = false := by decide) (hd2 : (x2 == ("__debug__" : Str)) = false := by decide) : wpAny (model PG w) A (eval (.Call (.Name fn pf) [.Name x1 p1, .Name x2 p2] [] pos) env) Q E s := by
  refine PyProof.Rows.Call_ ?_
  refine nmX S G hfn ?_ hk hkf hg hb hdf
  refine cwF S G hf ?_
  refine PyProof.Rows.args_cons ?_
  refine nmL S hv1 ?_ hL hk hx1 hd1
  refine PyProof.Rows.args_cons ?_
  refine nmL S hv2 ?_ hL hk hx2 hd2
  refine PyProof.Rows.args_nil ?_
  exact ⟨S.gr.ext, callS S G hA hB sp hn k⟩
theorem callNm5 {f : Addr} {n n' : Nat} {fn x1 x2 x3 x4 x5 : Str} {u1 u2 u3 u4 u5 : Value} {O : View → Value → Prop} {pf p1 p2 p3 p4 p5 pos : Pos} {Q : Value → Shared → Prop} (S : St v0 h0 v L s.heap m mu) (G : Gl w h0) (hA : Am A n') (hB : Base v0)
    (hfn : tv fn = some (.ref f)) (hf : fnIn (hd.heap_39 w.params) f = true) (hv1 : m x1 = some u1) (hv2 : m x2 = some u2) (hv3 : m x3 = some u3) (hv4 : m x4 = some u4) (hv5 : m x5 = some u5) (sp : Spec w f n [u1, u2, u3, u4, u5] v O) (hn : n ≤ n')
    (k : ∀ r h' v' tk, St v0 h0 v' L h' m mu → Sub v v' → O v' r → Q r { s with heap := h', toks := tk })
    (hL : env.locals = L := by rfl) (hk : env.scope.kind = .function := by rfl) (hg : env.globals = mainGlobals := by rfl) (hb : env.builtins = builtinsNs := by rfl) (hkf : env.kindOf fn = some .globalImplicit := by rfl) (hdf : (fn == ("__debug__" : Str)) = false := by decide)
    (hx1 : env.kindOf x1 = some .local := by rfl) (hx2 : env.kindOf x2 = some .local := by rfl) (hx3 : env.kindOf x3 = some .local := by rfl) (hx4 : env.kindOf x4 = some .local := by rfl) (hx5 : env.kindOf x5 = some .local := by rfl) (hd1 : (x1 == ("__debug__" : Str)) = false := by decide) (hd2 : (x2 == ("__debug__" : Str)) = false := by decide) (hd3 : (x3 == ("__debug__" : Str)) = false := by decide) (hd4 : (x4 == ("__debug__" : Str)) = false := by decide) (hd5 : (x5 == ("__debug__" : Str)) = false := by decide) : wpAny (model PG w) A (eval (.Call (.Name fn pf) [.Name x1 p1, .Name x2 p2, .Name x3 p3, .Name x4 p4, .Name x5 p5] [] pos) env) Q E s := by
  refine PyProof.Rows.Call_ ?_
  refine nmX S G hfn ?_ hk hkf hg hb hdf
  refine cwF S G hf ?_
  refine PyProof.Rows.args_cons ?_
  refine nmL S hv1 ?_ hL hk hx1 hd1
  refine PyProof.Rows.args_cons ?_
  refine nmL S hv2 ?_ hL hk hx2 hd2
  refine PyProof.Rows.args_cons ?_
  refine nmL S hv3 ?_ hL hk hx3 hd3
  refine PyProof.Rows.args_cons ?_
  refine nmL S hv4 ?_ hL hk hx4 hd4
  refine PyProof.Rows.args_cons ?_
  refine nmL S hv5 ?_ hL hk hx5 hd5
  refine PyProof.Rows.args_nil ?_
  exact ⟨S.gr.ext, callS S G hA hB sp hn k⟩
end

abbrev lstN (vs : List Value) (c : Nat) : Obj := { cls := .type "list", data := .seq vs.toArray c }
section
variable {w : World} {A : Around} {E : Value → Shared → Prop} {s : Shared} {v0 v : View} {h0 : Heap} {L : Addr} {m : Str → Option Value} {mu : List (Addr × Obj)} {env : Env}

structure It (w : World) (A : Around) (v0 v : View) (h0 : Heap) (L : Addr) (h : Heap) (mu : List (Addr × Obj)) (I : Addr) (fp wr : List Addr) (n : Nat) (P : Nat → Value → Prop) (Sx : Nat → Heap → Prop) : Prop where
  W : Walks PG w A I fp wr n P Sx
  hs : Sx 0 h
  hn : wr.Nodup
  hw : ∀ b ∈ wr, (∃ o, h.get? b = some o) ∧ h0.get? b = none ∧ v b = none ∧ b ≠ L ∧ ∀ p ∈ mu, p.1 ≠ b
  hfp : ∀ b ∈ fp, b ∈ wr ∨ ∃ o, v b = some o
  hlive : ∀ i h, Sx i h → ∀ b ∈ wr, ∃ o, h.get? b = some o

theorem itList {a : Addr} {xs : List Value} {n : Nat} {Q : Value → Shared → Prop} (S : St v0 h0 v L s.heap m mu) (hh : A.handled = none) (ha : v a = some (lstN xs n))
    (h : ∀ I h', St v0 h0 v L h' m mu → It w A v0 v h0 L h' mu I [I, a] [I] xs.length (fun i x => xs[i]? = some x) (fun i h => h.IsListIter I a i ∧ h.IsList a xs.toArray) → Q (.ref I) { s with heap := h' }) :
    wpAny (model PG w) A (pyIter (.ref a)) Q E s := by
  have n0 := size_none s.heap
  have ho := S.gr.le _ _ ha
  refine wpAny_pyIter_list (isLst_of ho) (h _ _ (S.more fun b o e => Heap.get?_push_of_some _ e) ⟨?_, ⟨⟨_, Heap.get?_push_size _ rfl, rfl, rfl⟩, (isLst_of ho).push _⟩, by simp, fun b hb => ?_, fun b hb => ?_, fun i h hx b hb => ?_⟩)
  · have W := Walks.list (prog := PG) (w := w) hh s.heap.objs.size a (Nat.ne_of_lt (Heap.lt_size ho)) xs.toArray
    simpa using W
  · rw [List.mem_singleton.mp hb]
    refine ⟨⟨_, Heap.get?_push_size _ rfl⟩, S.h0none n0, S.vnone n0, S.neL n0, fun p hp e => ?_⟩
    have := (S.mus p hp).1; rw [e, n0] at this; cases this
  · rcases List.mem_cons.mp hb with rfl | hb
    · exact .inl (by simp)
    · rw [List.mem_singleton.mp hb]; exact .inr ⟨_, ha⟩
  · rw [List.mem_singleton.mp hb]
    refine byP fun PP hPP => ?_
    obtain ⟨⟨o, e, _⟩, _⟩ := hx
    refine hPP ?_
    clear hPP
    exact ⟨o, e⟩
theorem itTup {a : Addr} {xs : List Value} {n : Nat} {Q : Value → Shared → Prop} (S : St v0 h0 v L s.heap m mu) (hh : A.handled = none) (ha : v a = some { cls := .type "tuple", data := .seq xs.toArray n })
    (h : ∀ I h', St v0 h0 v L h' m mu → It w A v0 v h0 L h' mu I [I, a] [I] xs.length (fun i x => xs[i]? = some x) (fun i h => h.IsTupleIter I a i ∧ h.IsTuple a xs.toArray) → Q (.ref I) { s with heap := h' }) :
    wpAny (model PG w) A (pyIter (.ref a)) Q E s := by
  have n0 := size_none s.heap
  have ho := S.gr.le _ _ ha
  have ht : s.heap.IsTuple a xs.toArray := ⟨_, ho, rfl, n, rfl⟩
  refine wpAny_pyIter_tuple ht (h _ _ (S.more fun b o e => Heap.get?_push_of_some _ e) ⟨?_, ⟨⟨_, Heap.get?_push_size _ rfl, rfl, rfl⟩, ht.push _⟩, by simp, fun b hb => ?_, fun b hb => ?_, fun i h hx b hb => ?_⟩)
  · have W := Walks.tuple (prog := PG) (w := w) hh s.heap.objs.size a (Nat.ne_of_lt (Heap.lt_size ho)) xs.toArray
    simpa using W
  · rw [List.mem_singleton.mp hb]
    refine ⟨⟨_, Heap.get?_push_size _ rfl⟩, S.h0none n0, S.vnone n0, S.neL n0, fun p hp e => ?_⟩
    have := (S.mus p hp).1; rw [e, n0] at this; cases this
  · rcases List.mem_cons.mp hb with rfl | hb
    · exact .inl (by simp)
    · rw [List.mem_singleton.mp hb]; exact .inr ⟨_, ha⟩
  · rw [List.mem_singleton.mp hb]
    refine byP fun PP hPP => ?_
    obtain ⟨⟨o, e, _⟩, _⟩ := hx
    refine hPP ?_
    clear hPP
    exact ⟨o, e⟩
theorem itRange {r : Addr} {a b : Int} {t u k : Tok} {n : Nat} {Q : Value → Shared → Prop} (S : St v0 h0 v L s.heap m mu) (hh : A.handled = none) (hr : IsRange s.heap r a b 1 t u k) (hsmall : Builtin.Range.small a b 1 = true) (hn : Builtin.Range.rangeSize a b 1 = (n : Int))
    (h : ∀ I h', St v0 h0 v L h' m mu → It w A v0 v h0 L h' mu I [I] [I] n (fun i x => ∃ t, x = .int (a + i * 1) t) (fun i h => IsRangeIter h I (a + (i : Nat) * 1) ((n : Int) - (i : Nat)) 1) → Q (.ref I) { s with heap := h' }) :
    wpAny (model PG w) A (pyIter (.ref r)) Q E s := by
  have n0 := size_none s.heap
  refine wpAny_pyIter_range hr hsmall (h _ _ (S.more fun b o e => Heap.get?_push_of_some _ e) ⟨Walks.range hh _ a 1 n, ?_, by simp, fun b hb => ?_, fun b hb => .inl hb, fun i h hx b hb => ?_⟩)
  · show IsRangeIter _ _ _ _ _
    rw [hn]; simpa using Heap.get?_push_size _ rfl
  · rw [List.mem_singleton.mp hb]
    refine ⟨⟨_, Heap.get?_push_size _ rfl⟩, S.h0none n0, S.vnone n0, S.neL n0, fun p hp e => ?_⟩
    have := (S.mus p hp).1; rw [e, n0] at this; cases this
  · rw [List.mem_singleton.mp hb]
    exact ⟨_, hx⟩

structure Off (C L : Addr) (h0 : Heap) (v : View) (mu : List (Addr × Obj)) : Prop where
  ne : C ≠ L
  h0 : h0.get? C = none
  vw : v C = none
  mu : ∀ p ∈ mu, p.1 ≠ C
theorem St.but {h h' : Heap} {C : Addr} (S : St v0 h0 v L h m mu) (o : Off C L h0 v mu) (hs : Heap.SameBut C h h') : St v0 h0 v L h' m mu := by
  refine ⟨⟨fun b x e => (hs.2 b ?_).trans (S.gr.ext b x e), S.gr.sub, fun b x e => (hs.2 b ?_).trans (S.gr.le b x e), S.gr.hid⟩, S.ns.sameBut hs (Ne.symm o.ne), S.newL, S.hidL, fun p hp => ?_, S.nd⟩
  · rintro rfl; rw [o.h0] at e; cases e
  · rintro rfl; rw [o.vw] at e; cases e
  · obtain ⟨a, b, c, d⟩ := S.mus p hp
    exact ⟨(hs.2 _ (o.mu p hp)).trans a, b, c, d⟩

def ItemEnd (s : Shared) (v0 : View) (h0 : Heap) (C : Addr) (v1 : View) (own : List (Addr × Obj)) (J : View → Value → List (Addr × Obj) → Prop) (r : Value) (s₃ : Shared) : Prop :=
  ∃ h' tk' v' mC' mu', s₃ = { s with heap := h', toks := tk' } ∧ Sub v1 v' ∧ St v0 h0 v' C h' mC' (own ++ mu') ∧ J v' r mu'

theorem itemEnd {C : Addr} {v1 v' : View} {own mu' : List (Addr × Obj)} {h' : Heap} {tk' : Nat} {mC' : Str → Option Value} {J : View → Value → List (Addr × Obj) → Prop} {r : Value} (S : St v0 h0 v' C h' mC' (own ++ mu')) (hs : Sub v1 v') (hj : J v' r mu') :
    ItemEnd s v0 h0 C v1 own J r { s with heap := h', toks := tk' } := ⟨h', tk', v', mC', mu', rfl, hs, S, hj⟩
theorem turnEnd {v1 v' : View} {own mu' : List (Addr × Obj)} {h' : Heap} {tk' : Nat} {m' : Str → Option Value} {J : View → (Str → Option Value) → List (Addr × Obj) → Prop} (S : St v0 h0 v' L h' m' (own ++ mu')) (hs : Sub v1 v') (hj : J v' m' mu') :
    Turn s v0 h0 L v1 own J .next { s with heap := h', toks := tk' } := ⟨rfl, h', tk', v', m', mu', rfl, hs, S, hj⟩

theorem compLoop {elt iter : Expr} {x : Str} {px : Pos} {scope : Scope} {cl : List (Str × Addr)} {pos : Pos} {I : Addr} {fp wr : List Addr} {n : Nat} {P : Nat → Value → Prop} {Sx : Nat → Heap → Prop} {RR : Value → Addr → Result → Shared → Prop}
    (J : Nat → View → List Value → List (Addr × Obj) → Prop) (S : St v0 h0 v env.locals s.heap m mu) (T : It w A v0 v h0 env.locals s.heap mu I fp wr n P Sx) (hn : n ≤ 1000000)
    (hcell : ∀ y ∈ scope.names, y.2 ≠ .cell) (hkind : scope.kind = .function) (hx : scope.names.lookup x = some .local) (hJ : J 0 v [] mu)
    (turn : ∀ i xv v1 ys mu1 own h tk C (mC : Str → Option Value), i < n → P i xv → Sub v v1 → J i v1 ys mu1 → St v0 h0 v1 C h (fun y => if y = x then some xv else mC y) (own ++ mu1) → ∀ T : Value → Shared → Prop, (∀ a s', ItemEnd s v0 h0 C v1 own (fun v' r mu' => J (i + 1) v' (ys ++ [r]) mu') a s' → T a s') →
      wpAny (model PG w) A (eval elt (compEnvC scope cl C env)) T F0 { s with heap := h, toks := tk })
    (done : ∀ v' ys mu' h tk D c C mC, Sub v v' → J n v' ys mu' → ys.length = n → St v0 h0 v' env.locals h m ((D, lstN ys c) :: mu') → h.Ns C mC → Off C env.locals h0 v' ((D, lstN ys c) :: mu') →
      RR (.ref D) C (.ok .next) { s with heap := h, toks := tk }) :
    wpAny (model PG w) A (newList []) (fun acc s₃ => wpAny (model PG w) A (newFunctionEnv scope env.globals cl [] env.qual none .none (some env)) (fun cenv s₄ =>
      codeAny (model PG w) A (.compStart (.ListComp elt [⟨.Name x px, iter, [], 0⟩] scope pos) 0 (.ref I) acc { cenv with scope := relabel scope env }) (RR acc cenv.locals) s₄) E s₃) E s := by
  refine wpAny_newObj_type (wpAny_newFunctionEnv hcell (by intro y hy; simp at hy) (fun h₁ hns₁ hsb₁ => ?_) hkind)
  dsimp only at hns₁ hsb₁ ⊢
  have S1 := S.pushMu (lstN [] 0)
  have nD := size_none s.heap
  generalize hH2 : s.heap.push (lstN [] 0) = H2 at S1 hns₁ hsb₁ ⊢
  have nC := size_none H2
  have hk₁ : ∀ b o, H2.get? b = some o → h₁.get? b = some o := fun b o e => hsb₁.extBut b o (Nat.ne_of_lt (Heap.lt_size e)) (Heap.get?_push_of_some _ e)
  have S2 := S1.more hk₁
  generalize hC : H2.objs.size = C at *
  generalize hD : s.heap.objs.size = D at *
  refine byP fun PP hPP => ?_
  obtain ⟨oL, esL, epL, hoL, hdL, hkL, hfL⟩ := id S2.ns
  refine hPP ?_
  clear hPP
  have liveC : ∀ b o, s.heap.get? b = some o → b ≠ C := fun b o e q => by
    have := hH2 ▸ Heap.get?_push_of_some (lstN [] 0) e; rw [q, nC] at this; cases this
  have liveD : ∀ b o, s.heap.get? b = some o → b ≠ D := fun b o e q => by rw [q, nD] at e; cases e
  have S3 : St v0 h0 v C h₁ (fun x => ([] : List (Str × Value)).reverse.lookup x) ((env.locals, oL) :: (D, lstN [] 0) :: mu) := by
    refine ⟨S2.gr, hns₁, S1.h0none nC, S1.vnone nC, fun p hp => ?_, ?_⟩
    · rcases List.mem_cons.mp hp with rfl | hp
      · exact ⟨hoL, fun q => S1.neL nC (Eq.symm q), S2.newL, S2.hidL⟩
      · obtain ⟨a, b, c, d⟩ := S1.mus p hp
        exact ⟨hk₁ _ _ a, (fun q => by rw [q, nC] at a; cases a), c, d⟩
    · refine List.nodup_cons.mpr ⟨fun hm => ?_, S1.nd⟩
      refine byP fun PP hPP => ?_
      obtain ⟨p, hp, e⟩ := List.mem_map.mp hm
      refine hPP ?_
      clear hPP
      exact (S1.mus p hp).2.1 e
  have hs₁ : Sx 0 h₁ := T.W.frame _ _ _ T.hs fun b _ o e => hk₁ b o (hH2 ▸ Heap.get?_push_of_some _ e)
  have loop : ∀ s₃ : Shared, s₃ = { s with heap := h₁, toks := s.toks + ([] : List (Str × Value)).length } →
      codeAny (model PG w) A (.compLoop (.ListComp elt [⟨.Name x px, iter, [], 0⟩] scope pos) 0 (.ref I) (.ref D) (compEnvC scope cl C env)) (RR (.ref D) C) s₃ := by
    rintro s₃ rfl
    refine codeAny_compLoop_list (fun k s' => ∃ i h tk v1 mC ys c mu1, k = n + 1 - i ∧ i ≤ n ∧ s' = { s with heap := h, toks := tk } ∧ Sub v v1 ∧ J i v1 ys mu1 ∧ ys.length = i ∧
      St v0 h0 v1 C h mC ((env.locals, oL) :: (D, lstN ys c) :: mu1) ∧ Sx i h ∧ (∀ b ∈ wr, v1 b = none ∧ ∀ p ∈ (env.locals, oL) :: (D, lstN ys c) :: mu1, p.1 ≠ b)) ?turn (n + 1)
      (ex8i 0 h₁ _ v _ [] 0 mu ⟨rfl, Nat.zero_le _, rfl, Sub.refl v, hJ, rfl, S3, hs₁, fun b hb => ⟨(T.hw b hb).2.2.1, fun p hp => ?ap⟩⟩)
    case ap =>
      refine byP fun PP hPP => ?_
      obtain ⟨⟨ob, hob⟩, q1, q2, q3, q4⟩ := T.hw b hb
      refine hPP ?_
      clear hPP
      rcases List.mem_cons.mp hp with rfl | hp
      · exact q3.symm
      · rcases List.mem_cons.mp hp with rfl | hp
        · exact (liveD b ob hob).symm
        · exact q4 p hp
    rintro k s' hJ'
    refine ex8 hJ' fun i h tk v1 mC ys c mu1 hK => ?_
    clear hJ'
    refine and9 hK fun hkk hi hs' hsv hj hyl S4 hx4 hap => ?_
    clear hK
    subst hkk hs'
    by_cases hlt : i < n
    · refine T.W.item i _ _ _ hlt hx4 fun xv h' tk' hP hx' hk => ?_
      have S5 := S4.withOwn T.hn (fun b hb => ⟨(T.hw b hb).2.1, (hap b hb).1, liveC b _ (T.hw b hb).1.choose_spec, (hap b hb).2⟩) hk
      dsimp only
      refine wpAny_assign_Name (stL (env := compEnvC scope cl C env) S5 (fun h5 tk5 S6 => ?_) rfl (by simp [compEnvC, relabel, hkind]) (lookup_relabel_local hx))
      replace S6 : St v0 h0 v1 C h5 (fun y => if y = x then some xv else mC y) (stand h' wr ++ (env.locals, oL) :: (D, lstN ys c) :: mu1) := S6
      have S7 : St v0 h0 v1 C h5 (fun y => if y = x then some xv else mC y) ((stand h' wr ++ [(env.locals, oL), (D, lstN ys c)]) ++ mu1) := by simpa using S6
      refine wpAny_mono (turn i xv v1 ys mu1 _ h5 tk5 C mC hlt hP hsv hj S7 _ fun _ _ k => k) (fun r s₃ q => ?_) fun _ _ f => f.elim
      refine byP fun PP hPP => ?_
      obtain ⟨h8, tk8, v8, mC8, mu8, rfl, hs8, S8, hj8⟩ := q
      refine hPP ?_
      clear hPP
      have S9 : St v0 h0 v8 C h8 mC8 ((stand h' wr ++ [(env.locals, oL)]) ++ (D, lstN ys c) :: mu8) := by simpa using S8
      have hDg : h8.get? D = some (lstN ys c) := (S9.mus (D, lstN ys c) (by simp)).1
      refine wpAny_list_append_plain ⟨c, hDg⟩ (fun h10 hp10 hs10 => ?_) (by rw [List.size_toArray, hyl, sizeLine_eq]; (first | lia | omega))
      obtain ⟨c', hp10⟩ := hp10
      have hp10' : h10.get? D = some (lstN (ys ++ [r]) c') := by simpa using hp10
      have S10 := S9.updB hs10 hp10'
      have S11 : St v0 h0 v8 C h10 mC8 (stand h' wr ++ ((env.locals, oL) :: (D, lstN (ys ++ [r]) c') :: mu8)) := by simpa using S10
      refine ⟨n + 1 - (i + 1), ar4 hlt, ex8i (i + 1) h10 tk8 v8 mC8 (ys ++ [r]) c' mu8 ⟨rfl, hlt, rfl, hsv.trans hs8, hj8, by simp [hyl], S11.dropOwn, ?_, fun b hb => ?_⟩⟩
      · refine T.W.frame _ _ _ hx' fun b hb o e => ?_
        rcases T.hfp b hb with q | ⟨o', q⟩
        · exact (S11.mus (b, o) (List.mem_append_left _ (mem_stand q e))).1
        · have e1 := S5.gr.le b o' (hsv b o' q)
          rw [e1] at e; cases e
          exact S11.gr.le b _ (hs8 b _ (hsv b _ q))
      · obtain ⟨o, ho⟩ := T.hlive _ _ hx' b hb
        exact ⟨(S11.mus (b, o) (List.mem_append_left _ (mem_stand hb ho))).2.2.2, fun p hp => S11.ownApart (p := (b, o)) (mem_stand hb ho) hp⟩
    · have e : i = n := by (first | lia | omega)
      subst e
      refine T.W.done _ _ _ hx4 fun h' tk' hk => ?_
      have S5 := S4.withOwn T.hn (fun b hb => ⟨(T.hw b hb).2.1, (hap b hb).1, liveC b _ (T.hw b hb).1.choose_spec, (hap b hb).2⟩) hk
      have S6 := S5.dropOwn
      have hL6 := S6.mus _ (.head _)
      have nd6 := List.nodup_cons.mp S6.nd
      refine done v1 ys mu1 h' tk' D c C mC hsv hj hyl ⟨S6.gr, ⟨oL, esL, epL, hL6.1, hdL, hkL, hfL⟩, hL6.2.2.1, hL6.2.2.2, fun p hp => ?_, nd6.2⟩ S6.ns ⟨Ne.symm hL6.2.1, S6.newL, S6.hidL, fun p hp => (S6.mus p (.tail _ hp)).2.1⟩
      refine byP fun PP hPP => ?_
      obtain ⟨a, b, c, d⟩ := S6.mus p (.tail _ hp)
      refine hPP ?_
      clear hPP
      exact ⟨a, fun q => nd6.1 (List.mem_map.mpr ⟨p, hp, q⟩), c, d⟩
  exact codeAny_compStart_list (loop _ rfl) (T.W.self 0 _ _ _ hs₁ (loop _ rfl))
end

section
variable {w : World} {A : Around} {E : Value → Shared → Prop} {s : Shared} {v0 v : View} {h0 : Heap} {L : Addr} {m : Str → Option Value} {mu : List (Addr × Obj)} {env : Env}

theorem stand_all {h : Heap} : ∀ {l : List Addr}, (∀ b ∈ l, ∃ o, h.get? b = some o) → (stand h l).map Prod.fst = l
  | [], _ => rfl
  | b :: l, k => by
    obtain ⟨o, e⟩ := k b (.head _)
    unfold stand
    rw [List.filterMap_cons, e]
    show b :: (stand h l).map Prod.fst = b :: l
    rw [stand_all fun c hc => k c (.tail _ hc)]

theorem enterC {n : Nat} {Q : Value → Shared → Prop} {name qual : Str} {params : Arguments} {body : List Stmt} {scope : Scope} {dV kV doc pm cdv ct oc : Value} {an od : Option Addr} {osl : Array (Option Value)} {f : Addr} {args : List Value} {binds : List (Str × Value)}
    (hA : Am A (n + 1)) (hG : Gl w s.heap) (hv : ∀ b o, v b = some o → s.heap.get? b = some o)
    (ho : (hd.heap_39 w.params).lookup f = some ⟨oc, od, .func (fnOf name qual params body scope dV kV doc pm an cdv ct), osl⟩)
    (hcd : codeIn (hd.heap_39 w.params) cdv qual = true)
    (hbind : BindsTo s (fnOf name qual params body scope dV kV doc pm an cdv ct) ⟨args, []⟩ binds) (hkind : (binds.all fun y => scope.names.lookup y.1 == some .local || scope.names.lookup y.1 == some .cell) = true)
    (hnd : ((cellsFrom 0 scope.names []).map (·.1)).Nodup)
    (h : ∀ L h₁ tk cells, cells.map Prod.fst = (cellsFrom (L + 1) scope.names []).map Prod.snd →
      (∀ n c, (cellsFrom (L + 1) scope.names []).lookup n = some c → ∃ o, (c, o) ∈ cells ∧ o.data = .cell (bindC (envOfC qual scope L f cdv).kindOf binds (fun _ => none) n)) →
      let env := envOfC qual scope L f cdv; let A' := A.deeper env; St v s.heap v L h₁ (bindL env.kindOf binds fun _ => none) cells → Am A' n →
      wpAny (model PG w) A' (execs body env)
        (fun fl s' => Q (match fl with | .ret v => v | _ => .none) s') (fun _ _ => False) { s with heap := h₁, toks := tk })
    (hco : scope.isCoroutine = false := by rfl) (hgen : scope.isGenerator = false := by rfl) (hk : scope.kind = .function := by rfl) :
    wpAny (model PG w) A (call (.ref f) args) Q E s := by
  obtain ⟨K, mean, mg, mb, T⟩ := hG
  refine wpAny_call (codeAny_call_function (fd := fnX name qual params body scope [] dV kV doc pm an cdv ct) hA.room (K _ _ ho) rfl hco hgen rfl (codeRec_of K hcd) (hbind _ _ _ _ ?_))
  refine wpAny_newFunctionEnv_cells hk (kindsX hkind _) fun env' he s' x => ?_
  subst he
  refine ⟨T.nolimit.keeps x.toInCall.keep, codeAny_func ?_⟩
  obtain ⟨h₁, tk, rfl, _⟩ := x.done
  have hk₁ := x.toInCall.keep
  have n0 := size_none s.heap
  have above : ∀ c, c ∈ (cellsFrom (s.heap.objs.size + 1) scope.names []).map Prod.snd → s.heap.objs.size < c := fun c hc => by
    obtain ⟨p, hp, rfl⟩ := List.mem_map.mp hc
    exact x.above p.1 p.2 hp
  have dead : ∀ c, s.heap.objs.size < c → s.heap.get? c = none := fun c hc => by
    cases q : s.heap.get? c with
    | none => rfl
    | some o => exact absurd (Nat.lt_trans hc (Heap.lt_size q)) (Nat.lt_irrefl _)
  have vdead : ∀ c, s.heap.get? c = none → v c = none := fun c hc => by
    cases q : v c with
    | none => rfl
    | some o => rw [hv _ _ q] at hc; cases hc
  have lk : ∀ n c, (n, c) ∈ cellsFrom (s.heap.objs.size + 1) scope.names [] → (cellsFrom (s.heap.objs.size + 1) scope.names []).lookup n = some c := fun n c hm => lookup_of_mem_nodup (cellsFrom_names scope.names 0 (s.heap.objs.size + 1) [] [] rfl ▸ hnd) hm
  have hall := stand_all (h := h₁) (l := (cellsFrom (s.heap.objs.size + 1) scope.names []).map Prod.snd) (fun b hb => by
    obtain ⟨p, hp, rfl⟩ := List.mem_map.mp hb
    obtain ⟨o, e, _⟩ := x.cell p.1 p.2 (lk _ _ hp)
    exact ⟨o, e⟩)
  refine wpAny_mono (h s.heap.objs.size h₁ tk (stand h₁ ((cellsFrom (s.heap.objs.size + 1) scope.names []).map Prod.snd)) hall (fun n c e => ?_) ⟨⟨hk₁, fun _ _ e => e, fun b o e => hk₁ b o (hv b o e), fun _ e _ => e⟩, x.toInCall.ns, n0, vdead _ n0, fun p hp => ?_, ?_⟩ (hA.deeper _ hgen hco rfl rfl)) (fun fl s' hq => hq) (fun _ _ hf => hf.elim)
  · obtain ⟨o, e1, e2⟩ := x.cell n c e
    exact ⟨o, mem_stand (List.mem_map.mpr ⟨(n, c), mem_of_lookup e, rfl⟩) e1, e2⟩
  · obtain ⟨a, b⟩ := stand_mem hp
    have := above _ a
    exact ⟨b, Nat.ne_of_gt this, dead _ this, vdead _ (dead _ this)⟩
  · rw [hall]
    exact List.pairwise_map.mpr x.apart

theorem oneCell {cells : List (Addr × Obj)} {c : Addr} (h : cells.map Prod.fst = [c]) : ∃ o, cells = [(c, o)] := by
  cases cells with
  | nil => cases h
  | cons p r => cases r with
    | nil => obtain ⟨a, o⟩ := p; cases h; exact ⟨o, rfl⟩
    | cons q r => cases h
theorem twoCells {cells : List (Addr × Obj)} {c d : Addr} (h : cells.map Prod.fst = [c, d]) : ∃ o o', cells = [(c, o), (d, o')] := by
  cases cells with
  | nil => cases h
  | cons p r => cases r with
    | nil => cases h
    | cons q r => cases r with
      | nil => obtain ⟨a, o⟩ := p; obtain ⟨b, o'⟩ := q; cases h; exact ⟨o, o', rfl⟩
      | cons _ _ => cases h
theorem compE {elt iter : Expr} {x : Str} {px : Pos} {scope : Scope} {cl : List (Str × Addr)} {pos : Pos} {Q : Value → Shared → Prop}
    (hclos : closureFor scope env = pure cl) (hkind : scope.kind = .function) (hnames : ∀ x ∈ scope.names, x.2 = .local → scope.names.lookup x.1 = some .local)
    (h : wpAny (model PG w) A (eval iter env) (fun x' s₁ => wpAny (model PG w) A (pyIter x') (fun it s₂ => wpAny (model PG w) A (newList []) (fun acc s₃ =>
      wpAny (model PG w) A (newFunctionEnv scope env.globals cl [] env.qual none .none (some env)) (fun cenv s₄ =>
        codeAny (model PG w) A (.compStart (.ListComp elt [⟨.Name x px, iter, [], 0⟩] scope pos) 0 it acc { cenv with scope := relabel scope env }) (compPost (model PG w) A E none Q acc cenv.locals) s₄) E s₃) E s₂) E s₁) E s)
    (hs : ∀ x, foldedSetIterable iter env x = pure x) :
    wpAny (model PG w) A (eval (.ListComp elt [⟨.Name x px, iter, [], 0⟩] scope pos) env) Q E s := by
  rw [eval_ListComp]
  exact wpAny_comprehension_free (use := none) rfl hs hclos hkind hnames h

theorem compA {elt iter : Expr} {x y : Str} {px py spos : Pos} {scope : Scope} {cl : List (Str × Addr)} {pos : Pos} {Q : Flow → Shared → Prop}
    (hsw : swapsWith (.ListComp elt [⟨.Name x px, iter, [], 0⟩] scope pos) (some (.Name y py)) spos.line env = pure true)
    (hclos : closureFor scope env = pure cl) (hkind : scope.kind = .function) (hnames : ∀ x ∈ scope.names, x.2 = .local → scope.names.lookup x.1 = some .local)
    (h : wpAny (model PG w) A (eval iter env) (fun x' s₁ => wpAny (model PG w) A (pyIter x') (fun it s₂ => wpAny (model PG w) A (newList []) (fun acc s₃ =>
      wpAny (model PG w) A (newFunctionEnv scope env.globals cl [] env.qual none .none (some env)) (fun cenv s₄ =>
        codeAny (model PG w) A (.compStart (.ListComp elt [⟨.Name x px, iter, [], 0⟩] scope pos) 0 it acc { cenv with scope := relabel scope env }) (compPost (model PG w) A E (some (assign (.Name y py) env)) (fun _ s' => Q .next s') acc cenv.locals) s₄) E s₃) E s₂) E s₁) E s)
    (hs : ∀ x, foldedSetIterable iter env x = pure x) :
    wpAny (model PG w) A (exec (.Assign [.Name y py] (.ListComp elt [⟨.Name x px, iter, [], 0⟩] scope pos) spos) env) Q E s := by
  rw [exec_Assign_Name_used _ _ _ _ hsw]
  refine wpAny_bind (wpAny_standAt (wpAny_bind ?_))
  show wpAny _ A (do let _ ← comprehension (.ListComp elt [⟨.Name x px, iter, [], 0⟩] scope pos) scope env _ (newList []) false (eval iter env) (some (assign (.Name y py) env))) _ _ s
  exact wpAny_bind (wpAny_mono (wpAny_comprehension_free (use := some (assign (.Name y py) env)) (Q := fun _ s' => Q .next s') rfl hs hclos hkind hnames h) (fun _ s' hq => wpAny_pure (wpAny_pure hq)) fun _ _ e => e)

theorem doneE {v' : View} {C D : Addr} {h : Heap} {tk : Nat} {mC : Str → Option Value} {Q : Value → Shared → Prop} (S : St v0 h0 v' env.locals h m mu) (hC : h.Ns C mC) (o : Off C env.locals h0 v' mu)
    (hq : ∀ h', St v0 h0 v' env.locals h' m mu → Q (.ref D) { s with heap := h', toks := tk }) : compPost (model PG w) A E none Q (.ref D) C (.ok .next) { s with heap := h, toks := tk } :=
  ⟨mC, hC, fun h' hs => hq h' (S.but o hs)⟩
theorem doneA {y : Str} {py : Pos} {v' : View} {C D : Addr} {h : Heap} {tk : Nat} {mC : Str → Option Value} {Q : Value → Shared → Prop} (S : St v0 h0 v' env.locals h m mu) (hC : h.Ns C mC) (o : Off C env.locals h0 v' mu)
    (hk : env.scope.kind = .function) (hx : env.kindOf y = some .local)
    (hq : ∀ h' tk', St v0 h0 v' env.locals h' (fun z => if z = y then some (.ref D) else m z) mu → Q .none { s with heap := h', toks := tk' }) : compPost (model PG w) A E (some (assign (.Name y py) env)) Q (.ref D) C (.ok .next) { s with heap := h, toks := tk } := by
  show wpAny _ A (assign (.Name y py) env (.ref D)) _ _ _
  refine wpAny_assign_Name (wpAny_storeName_local hx S.ns (fun h₂ hn₂ hs₂ => ?_) (by rw [hk]; rfl))
  refine ⟨mC, hC.sameBut hs₂ o.ne, fun h₃ hs₃ => hq _ _ (St.but ⟨⟨fun b x e => (hs₂.2 b ?_).trans (S.gr.ext b x e), S.gr.sub, fun b x e => (hs₂.2 b ?_).trans (S.gr.le b x e), S.gr.hid⟩, hn₂, S.newL, S.hidL, fun p hp => ?_, S.nd⟩ o hs₃)⟩
  · rintro rfl; rw [S.newL] at e; cases e
  · rintro rfl; rw [S.hidL] at e; cases e
  · obtain ⟨a, b, c, d⟩ := S.mus p hp
    exact ⟨(hs₂.2 _ b).trans a, b, c, d⟩
end

def trim : List Rat → List Rat
  | [] => []
  | q :: p => match trim p with
    | [] => if q = 0 then [] else [q]
    | r => q :: r
theorem trim_zero : ∀ {p : List Rat}, (∀ q ∈ p, q = 0) → trim p = []
  | [], _ => rfl
  | q :: p, h => by
    rw [trim, trim_zero fun x hx => h x (.tail _ hx)]
    exact if_pos (h q (.head _))
theorem trim_take : ∀ (p : List Rat) (k : Nat), k ≤ p.length → (∀ i q, k ≤ i → p[i]? = some q → q = 0) → (k = 0 ∨ ∃ q, p[k - 1]? = some q ∧ q ≠ 0) → trim p = p.take k
  | p, 0, _, h, _ => by
    rw [List.take_zero]
    refine trim_zero fun q hq => ?_
    obtain ⟨i, hi⟩ := List.mem_iff_getElem?.mp hq
    exact h i q (Nat.zero_le _) hi
  | [], k + 1, hk, _, _ => absurd hk (by simp)
  | q :: p, k + 1, hk, h, hz => by
    obtain ⟨z, hz, hz0⟩ := hz.resolve_left (by (first | lia | omega))
    have ih : ∀ hz', trim p = p.take k := fun hz' => trim_take p k (by simpa using hk) (fun i x hi e => h (i + 1) x (by (first | lia | omega)) (by simpa using e)) hz'
    cases k with
    | zero =>
      have e := ih (.inl rfl)
      rw [trim, e]
      simp at hz
      subst hz
      show (if q = 0 then [] else [q]) = [q]
      exact if_neg hz0
    | succ k =>
      have e := ih (.inr ⟨z, by simpa using hz, hz0⟩)
      rw [List.take_succ_cons, trim, e]
      have hne : p.take (k + 1) ≠ [] := by
        intro c
        have := congrArg List.length c
        rw [List.length_take, List.length_nil] at this
        simp only [List.length_cons] at hk
        (first | lia | omega)
      cases q2 : p.take (k + 1) with
      | nil => exact absurd q2 hne
      | cons a b => rfl

local macro_rules | `(tactic| walk_at "m.len") => `(tactic| first | with_reducible assumption | ((try simp only [List.length_take, List.length_dropLast, List.length_map, List.length_append, List.length_replicate, List.length_cons, List.length_nil]); lia))
local macro_rules | `(tactic| walk_at "m.short") => `(tactic| (show List.length _ ≤ _; walk_at "m.len"))
local macro_rules | `(tactic| walk_at "call builtin:len") => `(tactic| (refine polyLen ‹_› (by walk_at "m.poly") (by walk_at "m.short") ?_; intro _ _; (try dsimp only)))
local macro_rules | `(tactic| walk_at "call type:list") => `(tactic| (refine polyList ‹_› (by walk_at "m.poly") (by walk_at "m.short") ?_; intro _ _ _ _ _ _; (try dsimp only)))

local macro_rules | `(tactic| walk_at "subscriptTail Subscript") => `(tactic| first | (refine ratN ‹_› (by walk_at "m.rat") ?_; intro _) | (refine ratD ‹_› (by walk_at "m.rat") ?_; intro _))
local macro_rules | `(tactic| walk_at "subscriptTail Name Slice") => `(tactic| first | (refine polyInit ‹_› (by walk_at "m.poly") (by walk_at "m.short") ?_; intro _ _ _ _ _ _; (try dsimp only)) | (refine polyTake ‹_› (by walk_at "m.poly") (by walk_at "m.short") ?_; intro _ _ _ _ _ _; (try dsimp only)))
local macro_rules | `(tactic| walk_at "newList") => `(tactic| (refine polyNil ‹_› ?_; intro _ _ _ _ _ _; (try dsimp only)))
theorem qtrim_ok {w : World} {v : View} {x : Value} {p : List Rat} (hx : PolyAt v x p) (hs : Short p) : Spec w 92 1 [x] v (fun v' r => PolyAt v' r (trim p)) := by
  intro A E s Q hA hG hv hB kk
  refine enter hA hG hv (by rfl) (by kernel_rfl!) (BindsTo.of_eq rfl) (locs rfl) ?_
  intro L h₁ tk env A' S hA'
  (try dsimp only)
  repeat' walk1
  rename St _ _ _ _ _ _ _ => S2
  refine whileS (fun k v m mu => ∃ z t, m (Str.ofString "row") = some x ∧ m (Str.ofString "size") = some (.int z t) ∧ z = (k : Int) ∧ k ≤ p.length ∧ (∀ i q, k ≤ i → p[i]? = some q → q = 0) ∧ mu = []) S2 _ ⟨_, _, rfl, rfl, rfl, Nat.le_refl _, ?_, rfl⟩ ?_
  · intro i q hi e
    rw [List.getElem?_eq_none hi] at e; cases e
  rintro k v1 m1 mu1 h tk hsub ⟨_, t, hr, hsz, rfl, hk, hz, rfl⟩ S3 TT hT
  have hx1 := hx.mono hsub
  repeat' walk1
  · rename (0 < (k : Int)) => hk0
    have hlt : k - 1 < p.length := by (first | lia | omega)
    refine polyItem (q := p[k - 1]) S3 hx1 (by walk_at "m.short") (by (first | lia | omega)) (by rw [ar1 k, List.getElem?_eq_getElem hlt]) (fun y hy => ?_)
    dsimp only
    repeat' walk1
    ·
      rename (p[k - 1].num = 0) => hq
      refine hT _ _ ⟨rfl, _, _, _, _, [], rfl, Sub.refl _, by assumption, k - 1, by (first | lia | omega), _, _, by assumption, rfl, by (first | lia | omega), by (first | lia | omega), fun i q hi e => ?_, rfl⟩
      · by_cases hik : i = k - 1
        · subst hik
          rw [List.getElem?_eq_getElem hlt] at e
          cases e
          exact Rat.num_eq_zero.mp hq
        · exact hz i q (by (first | lia | omega)) e
    · rename (p[k - 1].num ≠ 0) => hq
      rename PolyAt _ _ _ => hp
      refine kk _ _ _ _ (St.gr (by assumption)) ?_
      rw [trim_take p k hk hz (.inr ⟨_, List.getElem?_eq_getElem hlt, fun e => hq (Rat.num_eq_zero.mpr e)⟩)]
      exact hp
  · rename (¬ 0 < (k : Int)) => hk0
    repeat' walk1
    have e : k = 0 := by (first | lia | omega)
    subst e
    rename PolyAt _ _ _ => hp
    refine kk _ _ _ _ (St.gr (by assumption)) ?_
    rw [trim_take p 0 hk hz (.inl rfl)]
    exact hp
local macro_rules | `(tactic| walk_at "m.spec") => `(tactic| exact qtrim_ok (by walk_at "m.poly") (by walk_at "m.short"))

section
variable {w : World} {A : Around} {E : Value → Shared → Prop} {s : Shared} {v0 v : View} {h0 : Heap} {L : Addr} {m : Str → Option Value} {mu : List (Addr × Obj)} {env : Env}
theorem compR {elt iter : Expr} {x : Str} {px : Pos} {scope : Scope} {cl : List (Str × Addr)} {pos : Pos} {I : Addr} {fp wr : List Addr} {n : Nat} {P : Nat → Value → Prop} {Sx : Nat → Heap → Prop} {RR : Value → Addr → Result → Shared → Prop}
    (R : Nat → View → Value → Prop) (hR : ∀ i v v' y, Sub v v' → R i v y → R i v' y)
    (S : St v0 h0 v L s.heap m mu) (T : It w A v0 v h0 L s.heap mu I fp wr n P Sx) (hn : n ≤ 1000000) (hL : env.locals = L)
    (hcell : ∀ y ∈ scope.names, y.2 ≠ .cell) (hkind : scope.kind = .function) (hx : scope.names.lookup x = some .local)
    (turn : ∀ i xv v1 own h tk C (mC : Str → Option Value), i < n → P i xv → Sub v v1 → St v0 h0 v1 C h (fun y => if y = x then some xv else mC y) (own ++ mu) → ∀ T : Value → Shared → Prop, (∀ a s', ItemEnd s v0 h0 C v1 own (fun v' r mu' => mu' = mu ∧ R i v' r) a s' → T a s') →
      wpAny (model PG w) A (eval elt (compEnvC scope cl C env)) T F0 { s with heap := h, toks := tk })
    (done : ∀ v1 v' ys h tk D c C mC, Sub v v' → ys.length = n → (∀ i y, ys[i]? = some y → R i v' y) → v' D = some (lstN ys c) → St v0 h0 v' L h m mu → h.Ns C mC → Off C L h0 v' mu → Sub v1 v' →
      RR (.ref D) C (.ok .next) { s with heap := h, toks := tk }) :
    wpAny (model PG w) A (newList []) (fun acc s₃ => wpAny (model PG w) A (newFunctionEnv scope env.globals cl [] env.qual none .none (some env)) (fun cenv s₄ =>
      codeAny (model PG w) A (.compStart (.ListComp elt [⟨.Name x px, iter, [], 0⟩] scope pos) 0 (.ref I) acc { cenv with scope := relabel scope env }) (RR acc cenv.locals) s₄) E s₃) E s := by
  subst hL
  refine compLoop (fun i v' ys mu' => mu' = mu ∧ ys.length = i ∧ ∀ j y, ys[j]? = some y → R j v' y) S T hn hcell hkind hx ⟨rfl, rfl, fun j y e => by cases e⟩ ?_ ?_
  · rintro i xv v1 ys mu1 own h tk C mC hi hP hs ⟨rfl, hl, hr⟩ S1 T' hT
    refine wpAny_mono (turn i xv v1 own h tk C mC hi hP hs S1 _ fun _ _ k => k) (fun r s₃ q => ?_) fun _ _ f => f
    obtain ⟨h', tk', v', mC', mu', e, hs', S', rfl, hr'⟩ := q
    refine hT _ _ ⟨h', tk', v', mC', _, e, hs', S', rfl, by simp [hl], fun j y e => ?_⟩
    rcases Nat.lt_trichotomy j ys.length with h | h | h
    · rw [List.getElem?_append_left h] at e; exact hR _ _ _ _ hs' (hr j y e)
    · subst h; simp at e; subst e; rw [hl]; exact hr'
    · rw [List.getElem?_eq_none (by simp; (first | lia | omega))] at e; cases e
  · rintro v' ys mu' h tk D c C mC hs ⟨rfl, hl, hr⟩ _ S1 hC o
    have hD := S1.mus (D, lstN ys c) (.head _)
    refine done v' _ ys h tk D c C mC (hs.trans S1.subFreeze) hl (fun i y e => hR _ _ _ _ S1.subFreeze (hr i y e)) (addV_self _ _ _) S1.freeze hC ⟨o.ne, o.h0, ?_, fun p hp => o.mu p (.tail _ hp)⟩ S1.subFreeze
    rw [addV_ne _ _ (Ne.symm (o.mu _ (.head _)))]
    exact o.vw
theorem compRE {elt iter : Expr} {x : Str} {px : Pos} {scope : Scope} {cl : List (Str × Addr)} {pos : Pos} {I : Addr} {fp wr : List Addr} {n : Nat} {P : Nat → Value → Prop} {Sx : Nat → Heap → Prop} {Q : Value → Shared → Prop}
    (R : Nat → View → Value → Prop) (hR : ∀ i v v' y, Sub v v' → R i v y → R i v' y)
    (S : St v0 h0 v L s.heap m mu) (T : It w A v0 v h0 L s.heap mu I fp wr n P Sx) (hn : n ≤ 1000000)
    (turn : ∀ i xv v1 own h tk C (mC : Str → Option Value), i < n → P i xv → Sub v v1 → St v0 h0 v1 C h (fun y => if y = x then some xv else mC y) (own ++ mu) → ∀ T : Value → Shared → Prop, (∀ a s', ItemEnd s v0 h0 C v1 own (fun v' r mu' => mu' = mu ∧ R i v' r) a s' → T a s') →
      wpAny (model PG w) A (eval elt (compEnvC scope cl C env)) T F0 { s with heap := h, toks := tk })
    (done : ∀ v' ys h tk D c, Sub v v' → ys.length = n → (∀ i y, ys[i]? = some y → R i v' y) → v' D = some (lstN ys c) → St v0 h0 v' L h m mu → Q (.ref D) { s with heap := h, toks := tk })
    (hL : env.locals = L) (hcell : ∀ y ∈ scope.names, y.2 ≠ .cell) (hkind : scope.kind = .function) (hx : scope.names.lookup x = some .local) :
    wpAny (model PG w) A (newList []) (fun acc s₃ => wpAny (model PG w) A (newFunctionEnv scope env.globals cl [] env.qual none .none (some env)) (fun cenv s₄ =>
      codeAny (model PG w) A (.compStart (.ListComp elt [⟨.Name x px, iter, [], 0⟩] scope pos) 0 (.ref I) acc { cenv with scope := relabel scope env }) (compPost (model PG w) A E none Q acc cenv.locals) s₄) E s₃) E s :=
  compR (RR := fun acc C => compPost (model PG w) A E none Q acc C) R hR S T hn hL hcell hkind hx turn fun v1 v' ys h tk D c C mC hs hl hr hd S1 hC o _ => by
    subst hL
    exact doneE S1 hC o fun h' S2 => done v' ys h' tk D c hs hl hr hd S2
theorem compRA {elt iter : Expr} {x z : Str} {px pz : Pos} {scope : Scope} {cl : List (Str × Addr)} {pos : Pos} {I : Addr} {fp wr : List Addr} {n : Nat} {P : Nat → Value → Prop} {Sx : Nat → Heap → Prop} {Q : Value → Shared → Prop}
    (R : Nat → View → Value → Prop) (hR : ∀ i v v' y, Sub v v' → R i v y → R i v' y)
    (S : St v0 h0 v L s.heap m mu) (T : It w A v0 v h0 L s.heap mu I fp wr n P Sx) (hn : n ≤ 1000000)
    (turn : ∀ i xv v1 own h tk C (mC : Str → Option Value), i < n → P i xv → Sub v v1 → St v0 h0 v1 C h (fun y => if y = x then some xv else mC y) (own ++ mu) → ∀ T : Value → Shared → Prop, (∀ a s', ItemEnd s v0 h0 C v1 own (fun v' r mu' => mu' = mu ∧ R i v' r) a s' → T a s') →
      wpAny (model PG w) A (eval elt (compEnvC scope cl C env)) T F0 { s with heap := h, toks := tk })
    (done : ∀ v' ys h tk D c, Sub v v' → ys.length = n → (∀ i y, ys[i]? = some y → R i v' y) → v' D = some (lstN ys c) → St v0 h0 v' L h (fun y => if y = z then some (.ref D) else m y) mu → Q .none { s with heap := h, toks := tk })
    (hL : env.locals = L) (hcell : ∀ y ∈ scope.names, y.2 ≠ .cell) (hkind : scope.kind = .function) (hx : scope.names.lookup x = some .local)
    (hk : env.scope.kind = .function) (hz : env.kindOf z = some .local) :
    wpAny (model PG w) A (newList []) (fun acc s₃ => wpAny (model PG w) A (newFunctionEnv scope env.globals cl [] env.qual none .none (some env)) (fun cenv s₄ =>
      codeAny (model PG w) A (.compStart (.ListComp elt [⟨.Name x px, iter, [], 0⟩] scope pos) 0 (.ref I) acc { cenv with scope := relabel scope env }) (compPost (model PG w) A E (some (assign (.Name z pz) env)) Q acc cenv.locals) s₄) E s₃) E s :=
  compR (RR := fun acc C => compPost (model PG w) A E (some (assign (.Name z pz) env)) Q acc C) R hR S T hn hL hcell hkind hx turn fun v1 v' ys h tk D c C mC hs hl hr hd S1 hC o _ => by
    subst hL
    exact doneA S1 hC o hk hz fun h' tk' S2 => done v' ys h' tk' D c hs hl hr hd S2
theorem polyOf {ys : List Value} {D : Addr} {c : Nat} {p : List Rat} (hd : v D = some (lstN ys c)) (hl : ys.length = p.length) (h : ∀ (i : Nat) y, ys[i]? = some y → ∃ q, p[i]? = some q ∧ RatAt v y q) : PolyAt v (.ref D) p := by
  refine ⟨D, c, ys, rfl, hd, ?_⟩
  clear hd
  induction ys generalizing p with
  | nil => cases p with
    | nil => exact .nil
    | cons _ _ => cases hl
  | cons y ys ih =>
    cases p with
    | nil => cases hl
    | cons q p =>
      obtain ⟨q', e, r⟩ := h 0 y rfl
      cases e
      exact .cons r (ih (by simpa using hl) fun i y e => h (i + 1) y e)
end
local macro_rules | `(tactic| walk_at "eval ListComp") => `(tactic| (refine compE (by with_unfolding_all rfl) rfl (by decide) ?_ (fun _ => rfl)))

theorem qneg_ok {w : World} {v : View} {x : Value} {p : List Rat} (hx : PolyAt v x p) (hs : Short p) : Spec w 102 2 [x] v (fun v' r => PolyAt v' r (p.map fun q => -q)) := by
  intro A E s Q hA hG hv hB kk
  refine enter hA hG hv (by rfl) (by kernel_rfl!) (BindsTo.of_eq rfl) (locs rfl) ?_
  intro L h₁ tk env A' S hA'
  (try dsimp only)
  repeat' walk1
  obtain ⟨a, n, xs, rfl, ha, hvs⟩ := hx
  refine itList S hA'.hd ha fun I h' S' T => ?_
  have hl := hvs.length
  refine compRE (fun i v y => ∃ q, (p.map fun q => -q)[i]? = some q ∧ RatAt v y q) (fun i v v' y s ⟨q, e, r⟩ => ⟨q, e, r.mono s⟩) S' T (by (first | lia | omega)) ?_ ?_ rfl (by decide) rfl rfl
  · intro i xv v1 own h tk C mC hi hP hsub S1 TT hT
    obtain ⟨q, hq, hr⟩ := hvs.item hP
    replace hr := hr.mono hsub
    repeat' walk1
    exact hT _ _ (itemEnd (by assumption) (by walk_at "m.sub") ⟨rfl, _, by rw [List.getElem?_map, hq]; rfl, by assumption⟩)
  · intro v' ys h tk D c hsub hyl hr hd S1
    exact kk _ _ _ _ S1.gr (polyOf hd (by simp [hyl, hl]) hr)
local macro_rules | `(tactic| walk_at "m.spec") => `(tactic| exact qneg_ok (by walk_at "m.poly") (by walk_at "m.short"))

theorem qscale_ok {w : World} {v : View} {x y : Value} {p : List Rat} {r : Rat} {n k : Nat} (hx : PolyAt v x p) (hs : Short p) (hy : RatAt v y r) (hp : ∀ q ∈ p, Hb n q) (hr : Hb k r) (hn : n + k ≤ 134217728) :
    Spec w 114 4 [x, y] v (fun v' z => PolyAt v' z (if r = 0 then [] else p.map fun q => q * r)) := by
  intro A E s Q hA hG hv hB kk
  refine enterC hA hG hv (by rfl) (by kernel_rfl!) (BindsTo.of_eq rfl) rfl (by decide +kernel) ?_
  intro L h₁ tk cells hcs hcell env A' S hA'
  (try dsimp only)
  obtain ⟨o, rfl⟩ := oneCell (c := L + 1) hcs
  obtain ⟨o', ho', hd⟩ := hcell (Str.ofString "r") (L + 1) rfl
  cases List.mem_singleton.mp ho'
  have hc : CellAt (addV v (L + 1) o) (L + 1) y := ⟨o, addV_self _ _ _, hd⟩
  have hsub := S.subFreeze
  replace S := S.freeze
  generalize addV v (L + 1) o = v1 at *
  clear ho' hd hcell hcs
  repeat' walk1
  · rename (r.num ≠ 0) => hr0
    have hr0' : r ≠ 0 := fun e => hr0 (Rat.num_eq_zero.mpr e)
    rw [if_neg hr0'] at kk
    replace hx := hx.mono hsub
    obtain ⟨a, c, xs, rfl, ha, hvs⟩ := hx
    have hl := hvs.length
    refine itList S hA'.hd ha fun I h' S' T => ?_
    refine compRE (fun i v y => ∃ q, (p.map fun q => q * r)[i]? = some q ∧ RatAt v y q) (fun i v v' y s ⟨q, e, r⟩ => ⟨q, e, r.mono s⟩) S' T (by (first | lia | omega)) ?_ ?_ rfl (by decide) rfl rfl
    · intro i xv v1 own h tk C mC hi hP hsub S1 TT hT
      obtain ⟨q, hq, hqr⟩ := hvs.item hP
      have hqb := hp q (List.mem_of_getElem? hq)
      repeat' walk1
      exact hT _ _ (itemEnd (by assumption) (by walk_at "m.sub") ⟨rfl, _, by rw [List.getElem?_map, hq]; rfl, by assumption⟩)
    · intro v' ys h tk D c hsub hyl hr hd S1
      exact kk _ _ _ _ S1.gr (polyOf hd (by simp [hyl, hl]) hr)
  · rename (r.num = 0) => hr0
    have hr0' : r = 0 := Rat.num_eq_zero.mp hr0
    rw [if_pos hr0'] at kk
    repeat' walk1
    exact kk _ _ _ _ (St.gr (by assumption)) (by assumption)

section
variable {w : World} {A : Around} {E : Value → Shared → Prop} {s : Shared} {v0 v : View} {h0 : Heap} {L : Addr} {m : Str → Option Value} {mu : List (Addr × Obj)} {env : Env}
theorem addPoly {b : Addr} {xs : List Value} {p q : List Rat} {y : Value} {Q : Value → Shared → Prop} (S : St v0 h0 v L s.heap m ((b, lstO xs) :: mu)) (hx : Vals v xs p) (hy : PolyAt v y q) (hl : p.length + q.length ≤ 1000000)
    (h : ∀ r v' h', St v0 h0 v' L h' m mu → Sub v v' → PolyAt v' r (p ++ q) → Q r { s with heap := h' }) : wpAny (model PG w) A (binaryOp .Add (.ref b) y) Q E s := by
  obtain ⟨a, n, ys, rfl, ha, hv⟩ := hy
  have hb := (S.mus _ (.head _)).1
  have ha' := S.gr.le _ _ ha
  have S1 : St v0 h0 v L s.heap m mu := St.dropOwn (own := [(b, lstO xs)]) S
  have e : xs.toArray ++ ys.toArray = (xs ++ ys).toArray := by simp
  have e1 := hx.length
  have e2 := hv.length
  refine concat_meets ⟨_, hb, rfl⟩ ⟨_, ha', rfl⟩ noFill_list_add seq_list_add PySem.F.slot_list_add PySem.F.entry_list_add (PySem.F.args_list_add_2 _ _) (list_addW b a xs.toArray ys.toArray 0 n none none #[] #[] (by rw [List.size_toArray, List.size_toArray, sizeLine_eq]; (first | lia | omega))) ⟨hb, ha', ?_⟩
  rw [e]
  exact h _ _ _ (S1.push _) (S1.subPush _) (PolyAt.of (addV_self _ _ _) ((hx.append hv).mono (S1.subPush _)))
end
local macro_rules | `(tactic| walk_at "newList cons") => `(tactic| (refine nwL ‹_› ?_ (by decide); intro _ _ _ _ _ _; (try dsimp only)))
local macro_rules | `(tactic| walk_at "binaryOp Mult ref int") => `(tactic| (refine mulM ‹_› ‹_› (by lia) ?_ (by lia); intro _ _ _; (try dsimp only)))

theorem qraise_ok {w : World} {v : View} {x : Value} {p : List Rat} {k : Int} {u : Tok} (hx : PolyAt v x p) (hs : p.length ≤ 1000) (hk : 0 ≤ k) (hk' : k < 1000) : Spec w 121 1 [x, .int k u] v (fun v' z => PolyAt v' z (if p = [] then [] else List.replicate k.toNat 0 ++ p)) := by
  intro A E s Q hA hG hv hB kk
  refine enter hA hG hv (by rfl) (by kernel_rfl!) (BindsTo.of_eq rfl) (locs rfl) ?_
  intro L h₁ tk env A' S hA'
  (try dsimp only)
  repeat' walk1
  · rename (0 < (p.length : Int)) => hl
    have hne : p ≠ [] := fun e => by rw [e] at hl; exact absurd hl (by decide)
    rw [if_neg hne] at kk
    refine addPoly (by assumption) (Vals.replicate (q := 0) (by walk_at "m.rat") _) (by assumption) (by rw [List.length_replicate]; (first | lia | omega)) ?_
    intro r v' h' S' hs' hr
    exact kk _ _ _ _ S'.gr hr
  · rename (¬ 0 < (p.length : Int)) => hl
    have hne : p = [] := List.eq_nil_of_length_eq_zero (by (first | lia | omega))
    rw [if_pos hne] at kk
    exact kk _ _ _ _ (St.gr (by assumption)) (by assumption)
local macro_rules | `(tactic| walk_at "m.spec") => `(tactic| first | exact qraise_ok (by walk_at "m.poly") (by walk_at "m.len") (by walk_at "m.num") (by walk_at "m.num") | exact qscale_ok (by walk_at "m.poly") (by walk_at "m.short") (by walk_at "m.rat") ‹_› ‹_› (by lia))

section
variable {w : World} {A : Around} {E : Value → Shared → Prop} {s : Shared} {v0 v : View} {h0 h : Heap} {L : Addr} {m : Str → Option Value} {mu : List (Addr × Obj)} {env : Env}
theorem St.two {c d : Addr} {x y : Value} {o1 o2 : Obj} (S : St v0 h0 v L h m [(d, o2), (c, o1)]) (h1 : ∃ o, (c, o) ∈ [(d, o2), (c, o1)] ∧ o.data = .cell (some x)) (h2 : ∃ o, (d, o) ∈ [(d, o2), (c, o1)] ∧ o.data = .cell (some y)) :
    ∃ v', St v0 h0 v' L h m [] ∧ Sub v v' ∧ CellAt v' c x ∧ CellAt v' d y := by
  have nd := S.nd
  simp at nd
  obtain ⟨p1, m1, e1⟩ := h1
  obtain ⟨p2, m2, e2⟩ := h2
  have e1' : o1.data = .cell (some x) := by
    rcases List.mem_cons.mp m1 with q | q
    · cases q; exact absurd rfl nd
    · cases List.mem_singleton.mp q; exact e1
  have e2' : o2.data = .cell (some y) := by
    rcases List.mem_cons.mp m2 with q | q
    · cases q; exact e2
    · cases List.mem_singleton.mp q; exact absurd rfl nd
  have S1 := S.freeze
  have S2 := S1.freeze
  have s1 := S.subFreeze
  have s2 := S1.subFreeze
  exact ⟨_, S2, s1.trans s2, ⟨o1, addV_self _ _ _, e1'⟩, ⟨o2, s2 _ _ (addV_self _ _ _), e2'⟩⟩
def RangeAt (v : View) (r : Value) (a b : Int) : Prop := ∃ c t u k, r = .ref c ∧ v c = some { cls := .type "range", dict := none, data := .fields #[.int a t, .int b u, .int 1 k], slots := #[] }
theorem range1 {n : Int} {t : Tok} {Q : Value → Shared → Prop} (S : St v0 h0 v L s.heap m mu)
    (h : ∀ r v' h' tk, St v0 h0 v' L h' m mu → Sub v v' → RangeAt v' r 0 n → Q r { s with heap := h', toks := tk }) : wpAny (model PG w) A (call (.type "range") [.int n t]) Q E s :=
  call_range_1 (h _ _ _ _ (S.push _) (S.subPush _) ⟨_, _, _, _, rfl, addV_self _ _ _⟩)
theorem range2 {a b : Int} {t u : Tok} {Q : Value → Shared → Prop} (S : St v0 h0 v L s.heap m mu)
    (h : ∀ r v' h' tk, St v0 h0 v' L h' m mu → Sub v v' → RangeAt v' r a b → Q r { s with heap := h', toks := tk }) : wpAny (model PG w) A (call (.type "range") [.int a t, .int b u]) Q E s :=
  call_range_2 (h _ _ _ _ (S.push _) (S.subPush _) ⟨_, _, _, _, rfl, addV_self _ _ _⟩)
theorem itRangeV {r : Value} {a b : Int} {n : Nat} {Q : Value → Shared → Prop} (S : St v0 h0 v L s.heap m mu) (hh : A.handled = none) (hr : RangeAt v r a b) (hsmall : Builtin.Range.small a b 1 = true) (hn : Builtin.Range.rangeSize a b 1 = (n : Int))
    (h : ∀ I h', St v0 h0 v L h' m mu → It w A v0 v h0 L h' mu I [I] [I] n (fun i x => ∃ t, x = .int (a + i * 1) t) (fun i h => IsRangeIter h I (a + (i : Nat) * 1) ((n : Int) - (i : Nat)) 1) → Q (.ref I) { s with heap := h' }) :
    wpAny (model PG w) A (pyIter r) Q E s := by
  obtain ⟨c, t, u, k, rfl, hc⟩ := hr
  exact itRange S hh (S.gr.le _ _ hc) hsmall hn h
theorem maxS {a b : Int} {t u : Tok} {Q : Value → Shared → Prop} (S : St v0 h0 v L s.heap m mu) (hh : A.handled = none)
    (h : ∀ h' tk t', St v0 h0 v L h' m mu → Q (.int (max a b) t') { s with heap := h', toks := tk }) : wpAny (model PG w) A (call (.builtin "max") [.int a t, .int b u]) Q E s :=
  max_two_ints hh fun h' tk hk => by
    have := fun t' => h h' tk t' (S.more hk)
    by_cases c : b > a
    · rw [if_pos c]
      rw [Int.max_eq_right (by (first | lia | omega))] at this
      exact this u
    · rw [if_neg c]
      rw [Int.max_eq_left (by (first | lia | omega))] at this
      exact this t
theorem range_small {a b : Int} (h1 : -1000000 ≤ a) (h2 : a ≤ b) (h3 : b ≤ 1000000) : Builtin.Range.small a b 1 = true ∧ Builtin.Range.rangeSize a b 1 = ((b - a).toNat : Int) := by
  have e : Builtin.Range.rangeSize a b 1 = b - a := by
    unfold Builtin.Range.rangeSize
    rw [if_pos (by decide)]
    split <;> (first | lia | omega)
  refine ⟨?_, by rw [e]; (first | lia | omega)⟩
  unfold Builtin.Range.small
  rw [e]
  unfold Builtin.Range.rangeFitsLong
  simp
  (first | lia | omega)
end
local macro_rules | `(tactic| walk_at "call type:range") => `(tactic| first | (refine range1 ‹_› ?_; intro _ _ _ _ _ _ _; (try dsimp only)) | (refine range2 ‹_› ?_; intro _ _ _ _ _ _ _; (try dsimp only)))

local macro_rules | `(tactic| walk_at "call builtin:max") => `(tactic| (refine maxS ‹_› (Am.hd ‹_›) ?_; intro _ _ _ _; (try dsimp only)))

local macro_rules | `(tactic| walk_at "subscriptTail Name Name") => `(tactic| (refine polyGet ‹_› (by walk_at "m.poly") (by walk_at "m.short") (by lia) ?_; intro _ _; (try dsimp only)))
theorem Hb.zero {n : Nat} (h : 1 ≤ n) : Hb n 0 := by
  have : 2 ^ 1 ≤ 2 ^ n := Nat.pow_le_pow_right (by (first | lia | omega)) h
  exact ⟨by show 0 < 2 ^ n; (first | lia | omega), by show 1 < 2 ^ n; (first | lia | omega)⟩
theorem hb_get {n : Nat} {p : List Rat} (h : ∀ q ∈ p, Hb n q) (h1 : 1 ≤ n) (i : Nat) : Hb n (p[i]?.getD 0) := by
  cases e : p[i]? with
  | none => exact Hb.zero h1
  | some q => exact h q (List.mem_of_getElem? e)

def addRaw (a b : List Rat) : List Rat := (List.range (max a.length b.length)).map fun i => a[i]?.getD 0 + b[i]?.getD 0

theorem addRaw_length (a b : List Rat) : (addRaw a b).length = max a.length b.length := by simp [addRaw]
theorem qadd_ok {w : World} {v : View} {x y : Value} {a b : List Rat} {n : Nat} (hx : PolyAt v x a) (hy : PolyAt v y b) (ha : a.length ≤ 1000) (hb : b.length ≤ 1000) (hna : ∀ q ∈ a, Hb n q) (hnb : ∀ q ∈ b, Hb n q) (hn : n ≤ 67108864) (hn1 : 1 ≤ n) :
    Spec w 97 4 [x, y] v (fun v' z => PolyAt v' z (trim (addRaw a b))) := by
  intro A E s Q hA hG hv hB kk
  refine enterC hA hG hv (by rfl) (by kernel_rfl!) (BindsTo.of_eq rfl) rfl (by decide +kernel) ?_
  intro L h₁ tk cells hcs hcell env A' S hA'
  (try dsimp only)
  obtain ⟨o2, o1, rfl⟩ := twoCells (c := L + 2) (d := L + 1) hcs
  obtain ⟨v1, S1, hsub, c1, c2⟩ := S.two (hcell (Str.ofString "a") (L + 1) rfl) (hcell (Str.ofString "b") (L + 2) rfl)
  clear hcs hcell S
  repeat' walk1
  rename RangeAt _ _ _ _ => hr
  have hmx : (max (a.length : Int) b.length) = ((max a.length b.length : Nat) : Int) := by (first | lia | omega)
  rw [hmx] at hr
  obtain ⟨r1, r2⟩ := range_small (a := 0) (b := ((max a.length b.length : Nat) : Int)) (by (first | lia | omega)) (by (first | lia | omega)) (by (first | lia | omega))
  refine itRangeV (n := max a.length b.length) (by assumption) hA'.hd hr r1 (by rw [r2]; (first | lia | omega)) fun I h' S' T => ?_
  refine compRE (fun i v y => ∃ q, (addRaw a b)[i]? = some q ∧ RatAt v y q) (fun i v v' y s ⟨q, e, r⟩ => ⟨q, e, r.mono s⟩) S' T (by (first | lia | omega)) ?_ ?_ rfl (by decide) rfl rfl
  · rintro i xv v1 own h tk C mC hi ⟨t, rfl⟩ hsub S1 TT hT
    rw [show (0 + (i : Int) * 1) = (i : Int) by (first | lia | omega)] at S1
    have e : (addRaw a b)[i]? = some (a[i]?.getD 0 + b[i]?.getD 0) := by
      unfold addRaw
      rw [List.getElem?_map, List.getElem?_range hi]; rfl
    have z0 := Hb.zero hn1
    have z1 := hb_get hna hn1 i
    have z2 := hb_get hnb hn1 i
    have ga : ¬ ((i : Int) < (a.length : Int)) → a[i]?.getD 0 = 0 := fun h => by rw [List.getElem?_eq_none (by (first | lia | omega))]; rfl
    have gb : ¬ ((i : Int) < (b.length : Int)) → b[i]?.getD 0 = 0 := fun h => by rw [List.getElem?_eq_none (by (first | lia | omega))]; rfl
    repeat' walk1
    all_goals (refine hT _ _ (itemEnd (by assumption) (by walk_at "m.sub") ⟨rfl, _, ?_, by assumption⟩); first | exact e | (rw [e, ga (by assumption), gb (by assumption)]; done) | (rw [e, ga (by assumption)]; done) | (rw [e, gb (by assumption)]; done))
  · intro v' ys h tk D c hsub hyl hr hd S1
    have hp : PolyAt v' (.ref D) (addRaw a b) := polyOf hd (by rw [addRaw_length]; (first | lia | omega)) hr
    have hlen := addRaw_length a b
    clear hr
    repeat' walk1
    exact kk _ _ _ _ (St.gr (by assumption)) (by assumption)
local macro_rules | `(tactic| walk_at "m.spec") => `(tactic| exact qadd_ok (by walk_at "m.poly") (by walk_at "m.poly") (by walk_at "m.len") (by walk_at "m.len") ‹_› ‹_› (by lia) (by lia))

theorem qsub_ok {w : World} {v : View} {x y : Value} {a b : List Rat} {n : Nat} (hx : PolyAt v x a) (hy : PolyAt v y b) (ha : a.length ≤ 1000) (hb : b.length ≤ 1000) (hna : ∀ q ∈ a, Hb n q) (hnb : ∀ q ∈ b, Hb n q) (hn : n ≤ 67108864) (hn1 : 1 ≤ n) :
    Spec w 109 5 [x, y] v (fun v' z => PolyAt v' z (trim (addRaw a (b.map fun q => -q)))) := by
  intro A E s Q hA hG hv hB kk
  have hnb' : ∀ q ∈ b.map fun q => -q, Hb n q := fun q hq => by
    obtain ⟨r, hr, rfl⟩ := List.mem_map.mp hq
    exact ⟨by rw [Rat.neg_num, Int.natAbs_neg]; exact (hnb r hr).1, (hnb r hr).2⟩
  refine enter hA hG hv (by rfl) (by kernel_rfl!) (BindsTo.of_eq rfl) (locs rfl) ?_
  intro L h₁ tk env A' S hA'
  (try dsimp only)
  repeat' walk1
  exact kk _ _ _ _ (St.gr (by assumption)) (by assumption)

section
variable {w : World} {A : Around} {E : Value → Shared → Prop} {s : Shared} {v0 v : View} {h0 : Heap} {L : Addr} {m : Str → Option Value} {mu : List (Addr × Obj)} {env : Env}
theorem forT {elts : List Expr} {kk : Nat} {pt : Pos} {body : List Stmt} {R : Result → Shared → Prop} {I : Addr} {fp wr : List Addr} {n k : Nat} {Pt : Nat → Array Value → Prop} {Sx : Nat → Heap → Prop} {Mid : Nat → Addr → Heap → Prop}
    (J : Nat → View → (Str → Option Value) → List (Addr × Obj) → Prop)
    (S : St v0 h0 v L s.heap m mu) (hA : Am A k) (W : WalksT PG w A I fp wr n Pt Sx Mid) (hs : Sx 0 s.heap) (hn : wr.Nodup)
    (hw : ∀ b ∈ wr, (∃ o, s.heap.get? b = some o) ∧ h0.get? b = none ∧ v b = none ∧ b ≠ L ∧ ∀ p ∈ mu, p.1 ≠ b) (hfp : ∀ b ∈ fp, b ∈ wr ∨ ∃ o, v b = some o)
    (hlive : ∀ i h, Sx i h → ∀ b ∈ wr, ∃ o, h.get? b = some o)
    (hJ : J 0 v m mu) (hlen : ∀ i vals, Pt i vals → (assignEach elts env).length = vals.size) (hstar : (assignEach elts env).findIdx? (·.1) = none)
    (turn : ∀ i vals v1 m1 mu1 own h tk, i < n → Pt i vals → Sub v v1 → J i v1 m1 mu1 → St v0 h0 v1 L h m1 (own ++ mu1) → ∀ T : Flow → Shared → Prop, (∀ a s', Turn s v0 h0 L v1 own (J (i + 1)) a s' → T a s') →
      wpAny (model PG w) A (assignInOrder ((assignEach elts env).map (·.2)) vals.toList) (fun _ s₂ => wpAny (model PG w) A (execs body env) T F0 s₂) F0 { s with heap := h, toks := tk })
    (done : ∀ v1 m1 mu1 h tk, Sub v v1 → J n v1 m1 mu1 → St v0 h0 v1 L h m1 mu1 → R (.ok .next) { s with heap := h, toks := tk }) :
    codeAny (model PG w) A (.forLoop (.Tuple elts kk pt) (.ref I) body [] env) R s := by
  refine codeAny_forLoop_any (fun k s' => ∃ i h tk v1 m1 mu1, k = n + 1 - i ∧ i ≤ n ∧ s' = { s with heap := h, toks := tk } ∧ Sub v v1 ∧ J i v1 m1 mu1 ∧ St v0 h0 v1 L h m1 mu1 ∧ Sx i h ∧
      (∀ b ∈ wr, v1 b = none ∧ ∀ p ∈ mu1, p.1 ≠ b)) ?_ (n + 1) (ex6i 0 s.heap s.toks v m mu ⟨by (first | lia | omega), Nat.zero_le _, rfl, Sub.refl v, hJ, S, hs, fun b hb => ⟨(hw b hb).2.2.1, (hw b hb).2.2.2.2⟩⟩)
  rintro k s' hJ
  refine ex6 hJ fun i h tk v1 m1 mu1 hK => ?_
  clear hJ
  refine and8 hK fun hkk hi hs' hsv hj S1 hx hap => ?_
  clear hK
  subst hkk hs'
  by_cases hlt : i < n
  · refine W.item i _ _ _ hlt hx fun Tp vals h' tk' hP _ hT hM hk => ?_
    refine W.go elts kk pt i Tp _ _ _ hM fun h2 hx2 hk2 => ?_
    have hTw := W.apart _ _ _ hM
    have hT2 : h2.IsTuple Tp vals := by
      obtain ⟨o, ho, r⟩ := hT
      exact ⟨o, hk2 _ _ hTw ho, r⟩
    refine wpAny_assign_Tuple hA.hd hT2 (hlen i vals hP) hstar fun h3 he3 => ?_
    dsimp only at he3 ⊢
    have hk3 : ∀ b o, b ∉ wr → h.get? b = some o → h3.get? b = some o := fun b o hb e =>
      have e2 := hk2 b o hb (hk b o hb e)
      he3 b o (Nat.ne_of_lt (Heap.lt_size e2)) e2
    have hx3 : Sx (i + 1) h3 := W.frame _ _ _ hx2 fun b _ o e => he3 b o (Nat.ne_of_lt (Heap.lt_size e)) e
    have S2 := S1.withOwn hn (fun b hb => ⟨(hw b hb).2.1, (hap b hb).1, (hw b hb).2.2.2.1, (hap b hb).2⟩) hk3
    refine wpAny_mono (turn i vals v1 m1 mu1 _ h3 tk' hlt hP hsv hj S2 _ fun _ _ k => k) (fun _ s₂ q => ?_) fun _ _ f => f.elim
    refine wpAny_mono q (fun fl s₃ t => ?_) fun _ _ f => f.elim
    obtain ⟨rfl, h4, tk4, v4, m4, mu4, rfl, hs4, S4, hj4⟩ := t
    refine ⟨n + 1 - (i + 1), ar4 hlt, ex6i (i + 1) h4 tk4 v4 m4 mu4 ⟨rfl, hlt, rfl, hsv.trans hs4, hj4, S4.dropOwn, ?_, fun b hb => ?_⟩⟩
    · refine W.frame _ _ _ hx3 fun b hb o e => ?_
      rcases hfp b hb with q | ⟨o', q⟩
      · exact (S4.mus (b, o) (List.mem_append_left _ (mem_stand q e))).1
      · have e1 := S2.gr.le b o' (hsv b o' q)
        rw [e1] at e; cases e
        exact S4.gr.le b _ (hs4 b _ (hsv b _ q))
    · obtain ⟨o, ho⟩ := hlive _ _ hx3 b hb
      refine ⟨(S4.mus (b, o) (List.mem_append_left _ (mem_stand hb ho))).2.2.2, fun p hp => S4.ownApart (p := (b, o)) (mem_stand hb ho) hp⟩
  · have e : i = n := by (first | lia | omega)
    subst e
    refine W.done _ _ _ hx fun h' tk' hk => wpAny_execs_nil ?_
    exact done v1 m1 mu1 h' tk' hsv hj (St.dropOwn (S1.withOwn hn (fun b hb => ⟨(hw b hb).2.1, (hap b hb).1, (hw b hb).2.2.2.1, (hap b hb).2⟩) hk))

structure EnumAt (v0 v : View) (h0 : Heap) (L : Addr) (h : Heap) (mu : List (Addr × Obj)) (e : Addr) (xs : List Value) : Prop where
  it : ∃ it a n, v a = some (lstN xs n) ∧ IsEnum h e it 0 .none ∧ h.IsListIter it a 0 ∧ e ≠ it ∧
    ∀ b, b = e ∨ b = it → h0.get? b = none ∧ v b = none ∧ b ≠ L ∧ ∀ p ∈ mu, p.1 ≠ b

theorem enumS {a : Addr} {xs : List Value} {n : Nat} {Q : Value → Shared → Prop} (S : St v0 h0 v L s.heap m mu) (ha : v a = some (lstN xs n))
    (h : ∀ e h', St v0 h0 v L h' m mu → EnumAt v0 v h0 L h' mu e xs → Q (.ref e) { s with heap := h' }) : wpAny (model PG w) A (call (.type "enumerate") [.ref a]) Q E s := by
  have ho := S.gr.le _ _ ha
  have n0 := size_none s.heap
  have n1 : s.heap.get? (s.heap.objs.size + 1) = none := by
    cases q : s.heap.get? (s.heap.objs.size + 1) with
    | none => rfl
    | some o => exact absurd (Heap.lt_size q) (Nat.not_lt.mpr (Nat.le_succ _))
  refine call_enumerate_1 ho fun h' he hit _ hk => h _ h' (S.more hk) ⟨s.heap.objs.size, a, n, ha, he, hit, Nat.succ_ne_self _, fun b hb => ?_⟩
  have nb : s.heap.get? b = none := by rcases hb with rfl | rfl; exact n1; exact n0
  refine ⟨S.h0none nb, S.vnone nb, S.neL nb, fun p hp e => ?_⟩
  have := (S.mus p hp).1; rw [e, nb] at this; cases this

theorem forEnum {xi xv : Str} {pi pv pt : Pos} {kk k : Nat} {body : List Stmt} {R : Result → Shared → Prop} {e : Addr} {xs : List Value} (J : Nat → View → (Str → Option Value) → List (Addr × Obj) → Prop)
    (S : St v0 h0 v L s.heap m mu) (hA : Am A k) (T : EnumAt v0 v h0 L s.heap mu e xs) (hJ : J 0 v m mu)
    (turn : ∀ i x t v1 m1 mu1 own h tk, xs[i]? = some x → Sub v v1 → J i v1 m1 mu1 → St v0 h0 v1 L h m1 (own ++ mu1) → ∀ T : Flow → Shared → Prop, (∀ a s', Turn s v0 h0 L v1 own (J (i + 1)) a s' → T a s') →
      wpAny (model PG w) A (assignInOrder ((assignEach [.Name xi pi, .Name xv pv] env).map (·.2)) [.int (i : Int) t, x]) (fun _ s₂ => wpAny (model PG w) A (execs body env) T F0 s₂) F0 { s with heap := h, toks := tk })
    (done : ∀ v1 m1 mu1 h tk, Sub v v1 → J xs.length v1 m1 mu1 → St v0 h0 v1 L h m1 mu1 → R (.ok .next) { s with heap := h, toks := tk }) :
    wpAny (model PG w) A (pyIter (.ref e)) (fun it' s₂ => codeAny (model PG w) A (.forLoop (.Tuple [.Name xi pi, .Name xv pv] kk pt) it' body [] env) R s₂) E s := by
  obtain ⟨it, a, n, ha, he, hit, hne, hb⟩ := T.it
  have ho := S.gr.le _ _ ha
  have hae : a ≠ e := fun q => by rw [q, (hb e (.inl rfl)).2.1] at ha; cases ha
  have hai : a ≠ it := fun q => by rw [q, (hb it (.inr rfl)).2.1] at ha; cases ha
  refine wpAny_pyIter_enum he ?_
  have W := WalksT.enumerate (prog := PG) (w := w) hA.hd e it a hne hae hai xs.toArray
  have hsz : xs.toArray.size = xs.length := by simp
  rw [hsz] at W
  refine forT J S hA W ⟨⟨_, he⟩, hit, isLst_of ho⟩ (by simp [hne]) (fun b hbw => ?_) (fun b hbf => ?_) (fun i h hx b hbw => ?_) hJ (fun i vals hP => ?_) rfl (fun i vals v1 m1 mu1 own h tk hi hP hs hj S1 => ?_) done
  · have hb' : b = e ∨ b = it := by simpa using hbw
    refine ⟨?_, hb b hb'⟩
    rcases hb' with rfl | rfl
    · exact ⟨_, he⟩
    · obtain ⟨o, h1, _⟩ := hit; exact ⟨o, h1⟩
  · have hb' : b = e ∨ b = it ∨ b = a := by simpa using hbf
    rcases hb' with rfl | rfl | rfl
    · exact .inl (by simp)
    · exact .inl (by simp)
    · exact .inr ⟨_, ha⟩
  · have hb' : b = e ∨ b = it := by simpa using hbw
    rcases hb' with rfl | rfl
    · obtain ⟨⟨old, h1⟩, _⟩ := hx; exact ⟨_, h1⟩
    · obtain ⟨_, ⟨o, h1, _⟩, _⟩ := hx; exact ⟨o, h1⟩
  · obtain ⟨t, x, _, rfl⟩ := hP; rfl
  · obtain ⟨t, x, hx, rfl⟩ := hP
    exact turn i x t v1 m1 mu1 own h tk (by simpa using hx) hs hj S1
end

theorem divInt_num_le (a b : Int) : (Rat.divInt a b).num.natAbs ≤ a.natAbs := by
  rw [Rat.num_divInt]
  refine Nat.le_trans (Int.natAbs_ediv_le_natAbs _ _) ?_
  rw [Int.natAbs_mul]
  have : b.sign.natAbs ≤ 1 := by
    rcases Int.lt_trichotomy b 0 with h | h | h
    · rw [Int.sign_eq_neg_one_of_neg h]; decide
    · rw [h]; decide
    · rw [Int.sign_eq_one_of_pos h]; decide
  exact Nat.le_trans (Nat.mul_le_mul_right _ this) (by (first | lia | omega))
theorem divInt_den_le {a b : Int} (hb : b ≠ 0) : (Rat.divInt a b).den ≤ b.natAbs := by
  rw [Rat.den_divInt, if_neg hb]
  exact Nat.div_le_self _ _
theorem Hb.add {n k : Nat} {a b : Rat} (ha : Hb n a) (hb : Hb k b) : Hb (n + k + 1) (a + b) := by
  rw [← rat_add]
  have e : 2 ^ (n + k + 1) = 2 ^ n * 2 ^ k + 2 ^ n * 2 ^ k := by rw [Nat.pow_succ, Nat.pow_add]; (first | lia | omega)
  have h1 : a.num.natAbs * b.den ≤ 2 ^ n * 2 ^ k := Nat.mul_le_mul (Nat.le_of_lt ha.1) (Nat.le_of_lt hb.2)
  have h2 : b.num.natAbs * a.den ≤ 2 ^ n * 2 ^ k := by rw [Nat.mul_comm (2 ^ n)]; exact Nat.mul_le_mul (Nat.le_of_lt hb.1) (Nat.le_of_lt ha.2)
  have h1' : a.num.natAbs * b.den < 2 ^ n * 2 ^ k := Nat.mul_lt_mul'' ha.1 hb.2
  have h3 : a.den * b.den < 2 ^ n * 2 ^ k := Nat.mul_lt_mul'' ha.2 hb.2
  constructor
  · refine Nat.lt_of_le_of_lt (divInt_num_le _ _) (Nat.lt_of_le_of_lt (Int.natAbs_add_le _ _) ?_)
    rw [Int.natAbs_mul, Int.natAbs_mul, Int.natAbs_natCast, Int.natAbs_natCast]
    (first | lia | omega)
  · refine Nat.lt_of_le_of_lt (divInt_den_le (Int.mul_ne_zero (den_ne a) (den_ne b))) ?_
    rw [Int.natAbs_mul, Int.natAbs_natCast, Int.natAbs_natCast]
    (first | lia | omega)
theorem Hb.mul {n k : Nat} {a b : Rat} (ha : Hb n a) (hb : Hb k b) : Hb (n + k) (a * b) := by
  rw [← rat_mul]
  have e : 2 ^ (n + k) = 2 ^ n * 2 ^ k := Nat.pow_add ..
  constructor
  · refine Nat.lt_of_le_of_lt (divInt_num_le _ _) ?_
    rw [Int.natAbs_mul, e]
    exact Nat.mul_lt_mul'' ha.1 hb.1
  · refine Nat.lt_of_le_of_lt (divInt_den_le (Int.mul_ne_zero (den_ne a) (den_ne b))) ?_
    rw [Int.natAbs_mul, Int.natAbs_natCast, Int.natAbs_natCast, e]
    exact Nat.mul_lt_mul'' ha.2 hb.2
theorem Hb.inv {n : Nat} {a : Rat} (ha : Hb n a) (h0 : a ≠ 0) : Hb n a⁻¹ := by
  rw [← rat_inv]
  have hn : a.num ≠ 0 := fun e => h0 (Rat.num_eq_zero.mp e)
  constructor
  · refine Nat.lt_of_le_of_lt (divInt_num_le _ _) ?_
    rw [Int.natAbs_natCast]; exact ha.2
  · exact Nat.lt_of_le_of_lt (divInt_den_le hn) ha.1
theorem Hb.div {n k : Nat} {a b : Rat} (ha : Hb n a) (hb : Hb k b) (h0 : b ≠ 0) : Hb (n + k) (a / b) := by
  rw [Rat.div_def]; exact ha.mul (hb.inv h0)
theorem Hb.neg {n : Nat} {a : Rat} (ha : Hb n a) : Hb n (-a) := ⟨by rw [Rat.neg_num, Int.natAbs_neg]; exact ha.1, ha.2⟩

def addAt (f : List Rat) (k : Nat) (c : Rat) : List Rat := f.set k (f[k]?.getD 0 + c)
def mulRow (f : List Rat) (off : Nat) (c : Rat) : List Rat → List Rat
  | [] => f
  | q :: b => mulRow (addAt f off (c * q)) (off + 1) c b
def mulAll (f : List Rat) (off : Nat) (b : List Rat) : List Rat → List Rat
  | [] => f
  | c :: a => mulAll (mulRow f off c b) (off + 1) b a
theorem mulRow_snoc : ∀ (b : List Rat) (f : List Rat) (off : Nat) (c q : Rat), mulRow f off c (b ++ [q]) = addAt (mulRow f off c b) (off + b.length) (c * q)
  | [], f, off, c, q => rfl
  | r :: b, f, off, c, q => by
    show mulRow (addAt f off (c * r)) (off + 1) c (b ++ [q]) = addAt (mulRow (addAt f off (c * r)) (off + 1) c b) (off + (b.length + 1)) (c * q)
    rw [mulRow_snoc b, show off + 1 + b.length = off + (b.length + 1) by (first | lia | omega)]
theorem mulAll_snoc : ∀ (a : List Rat) (f : List Rat) (off : Nat) (b : List Rat) (c : Rat), mulAll f off b (a ++ [c]) = mulRow (mulAll f off b a) (off + a.length) c b
  | [], f, off, b, c => rfl
  | r :: a, f, off, b, c => by
    show mulAll (mulRow f off r b) (off + 1) b (a ++ [c]) = mulRow (mulAll (mulRow f off r b) (off + 1) b a) (off + (a.length + 1)) c b
    rw [mulAll_snoc a, show off + 1 + a.length = off + (a.length + 1) by (first | lia | omega)]
theorem addAt_length (f : List Rat) (k : Nat) (c : Rat) : (addAt f k c).length = f.length := List.length_set ..
theorem mulRow_length : ∀ (b : List Rat) (f : List Rat) (off : Nat) (c : Rat), (mulRow f off c b).length = f.length
  | [], _, _, _ => rfl
  | q :: b, f, off, c => (mulRow_length b _ _ _).trans (addAt_length ..)
theorem mulAll_length : ∀ (a : List Rat) (f : List Rat) (off : Nat) (b : List Rat), (mulAll f off b a).length = f.length
  | [], _, _, _ => rfl
  | c :: a, f, off, b => (mulAll_length a _ _ _).trans (mulRow_length ..)
theorem addAt_get (f : List Rat) (k i : Nat) (c : Rat) (hk : k < f.length) : (addAt f k c)[i]?.getD 0 = if i = k then f[k]?.getD 0 + c else f[i]?.getD 0 := by
  unfold addAt
  rw [List.getElem?_set]
  by_cases h : k = i
  · subst h
    rw [if_pos rfl, if_pos hk, if_pos rfl]; rfl
  · rw [if_neg h, if_neg (Ne.symm h)]

section
variable {w : World} {A : Around} {E : Value → Shared → Prop} {s : Shared} {v0 v : View} {h0 : Heap} {L : Addr} {m : Str → Option Value} {mu : List (Addr × Obj)} {env : Env}
theorem setS {pre : List (Addr × Obj)} {a : Addr} {xs : List Value} {c : Nat} {k : Int} {t : Tok} {val : Value} {Q : Unit → Shared → Prop} (S : St v0 h0 v L s.heap m (pre ++ (a, lstN xs c) :: mu)) (h0' : 0 ≤ k) (hk : k < xs.length) (hlen : xs.length ≤ 1000000)
    (h : ∀ h', St v0 h0 v L h' m (pre ++ (a, lstN (xs.set k.toNat val) c) :: mu) → Q () { s with heap := h' }) : wpAny (model PG w) A (setItem (.ref a) (.int k t) val) Q E s := by
  refine ki_setAt (S.mus (a, lstN xs c) (by simp)).1 h0' (by (first | lia | omega)) (by rw [List.size_toArray]; (first | lia | omega)) (h _ ?_)
  refine S.upd ?_ rfl
  show (⟨_, _, .seq _ _, _⟩ : Obj) = _
  rw [if_pos (by simp)]
  simp
theorem muItem {a : Addr} {value slice : Expr} {xs : List Value} {p : List Rat} {c : Nat} {k : Int} {u : Tok} {Q : Value → Shared → Prop} (S : St v0 h0 v L s.heap m mu) (hm : (a, lstN xs c) ∈ mu) (hv : Vals v xs p) (h0' : 0 ≤ k) (hk : k < p.length) (hs : p.length ≤ 1000000)
    (h : ∀ y, RatAt v y (p[k.toNat]?.getD 0) → Q y s)
    (hss : subscripted slice false (.ref a) (.int k u) = operate [.ref a, .int k u] (getItem (.ref a) (.int k u)) := by with_unfolding_all rfl) :
    wpAny (model PG w) A (subscriptTail value slice (.ref a) (.int k u)) Q E s := by
  have hlt : k.toNat < p.length := by (first | lia | omega)
  obtain ⟨y, hy, hr⟩ := hv.get (List.getElem?_eq_getElem hlt)
  have hl := isLst_of (S.mus _ hm).1
  refine tail_any hl.typeIs slot_list_getitem.lookup (wpAny_getItem_list hl h0' (by (first | lia | omega)) (by simpa using hy) (h y ?_)) hss
  rw [List.getElem?_eq_getElem hlt]
  exact hr
end

local macro_rules | `(tactic| walk_at "exec For") => `(tactic| (refine wpAny_For (hs := fun _ => rfl) ?_))
def RowAt (mu : List (Addr × Obj)) (f : Addr) (v : View) (p : List Rat) : Prop := ∃ ys c, mu = [(f, lstN ys c)] ∧ Vals v ys p
theorem qmul_ok {w : World} {v : View} {x y : Value} {a b : List Rat} {na nb : Nat} (hx : PolyAt v x a) (hy : PolyAt v y b) (ha : a.length ≤ 100) (hb : b.length ≤ 100) (hna : ∀ q ∈ a, Hb na q) (hnb : ∀ q ∈ b, Hb nb q)
    (hn : 1 + a.length * (na + nb + 1) ≤ 67108864) (hM : na + nb ≤ 67108864) :
    Spec w 128 4 [x, y] v (fun v' z => PolyAt v' z (if a = [] ∨ b = [] then [] else mulAll (List.replicate (a.length + b.length - 1) 0) 0 b a)) := by
  intro A E s Q hA hG hv hB kk
  refine enter hA hG hv (by rfl) (by kernel_rfl!) (BindsTo.of_eq rfl) (locs rfl) ?_
  intro L h₁ tk env A' S hA'
  (try dsimp only)
  refine byP fun PP hPP => ?_
  obtain ⟨aa, ca, xs, rfl, hxa, hva⟩ := id hx
  refine hPP ?_
  clear hPP
  refine byP fun PP hPP => ?_
  obtain ⟨bb, cb, zs, rfl, hzb, hvb⟩ := id hy
  refine hPP ?_
  clear hPP
  have hla := hva.length
  have hlb := hvb.length
  repeat' walk1
  · rename ((a.length : Int) = 0) => h0
    have h0' : a = [] := List.eq_nil_of_length_eq_zero (by (first | lia | omega))
    rw [if_pos (.inl h0')] at kk
    exact kk _ _ _ _ (St.gr (by assumption)) (by assumption)
  · rename ((b.length : Int) = 0) => h0
    have h0' : b = [] := List.eq_nil_of_length_eq_zero (by (first | lia | omega))
    rw [if_pos (.inr h0')] at kk
    exact kk _ _ _ _ (St.gr (by assumption)) (by assumption)
  rename ((a.length : Int) ≠ 0) => ha0
  rename ((b.length : Int) ≠ 0) => hb0
  have ha0' : a ≠ [] := fun e => by rw [e] at ha0; exact ha0 rfl
  have hb0' : b ≠ [] := fun e => by rw [e] at hb0; exact hb0 rfl
  rw [if_neg (by rintro (h | h) <;> contradiction)] at kk
  have ela : ((a.length : Int) + b.length - 1).toNat = a.length + b.length - 1 := by (first | lia | omega)
  rename Sub v _ => hs1
  rename_i f _ _ _ _ _ _
  refine enumS (by assumption) (hs1 _ _ hxa) fun e h' S1 T1 => ?_
  dsimp only
  refine forEnum (fun i v m mu => ∃ p, RowAt mu f v p ∧ p = mulAll (List.replicate (a.length + b.length - 1) 0) 0 b (a.take i) ∧ m (Str.ofString "b") = some (.ref bb) ∧ m (Str.ofString "found") = some (.ref f) ∧ ∀ k : Nat, Hb (1 + i * (na + nb + 1)) (p[k]?.getD 0))
    S1 hA' T1 ⟨_, ⟨_, 0, rfl, Vals.replicate (q := 0) (by walk_at "m.rat") _⟩, by rw [ela]; rfl, rfl, rfl, fun k => ?_⟩ ?_ ?_
  · rw [Nat.zero_mul, List.getElem?_replicate]
    split <;> exact Hb.zero (by (first | lia | omega))
  · clear ela
    rintro i x t v1 m1 mu1 own h tk hxi hs2 ⟨p, hK⟩ S2 TT hT
    refine and5 hK fun hrow hp hmb hmf hbits => ?_
    clear hK
    refine byP fun PP hPP => ?_
    obtain ⟨ys, c, rfl, hvp⟩ := hrow
    refine hPP ?_
    clear hPP
    refine byP fun PP hPP => ?_
    obtain ⟨qx, hqx, hrx⟩ := hva.item hxi
    refine hPP ?_
    clear hPP
    have hrx1 : RatAt v1 x qx := hrx.mono (hs1.trans hs2)
    have hbx := hna qx (List.mem_of_getElem? hqx)
    have hil : i < a.length := (List.getElem?_eq_some_iff.mp hqx).1
    have etake : a.take (i + 1) = a.take i ++ [qx] := by rw [List.take_add_one, hqx]; rfl
    have hpl : p.length = a.length + b.length - 1 := by rw [hp, mulAll_length, List.length_replicate]
    have hstep : (i + 1) * (na + nb + 1) = i * (na + nb + 1) + (na + nb + 1) := by rw [Nat.add_mul, Nat.one_mul]
    have hmax : (i + 1) * (na + nb + 1) ≤ a.length * (na + nb + 1) := Nat.mul_le_mul_right _ hil
    repeat' walk1
    refine enumS (by assumption) (hs2 _ _ (hs1 _ _ hzb)) fun e2 h2 S3 T2 => ?_
    dsimp only
    refine forEnum (fun j v m mu => ∃ p' ys' c', mu = own ++ [(f, lstN ys' c')] ∧ Vals v ys' p' ∧ p' = mulRow p i qx (b.take j) ∧ m (Str.ofString "b") = some (.ref bb) ∧ m (Str.ofString "found") = some (.ref f) ∧ (∃ t, m (Str.ofString "one") = some (.int (i : Int) t)) ∧ m (Str.ofString "left") = some x ∧
        ∀ k : Nat, Hb (if k < i + j then 1 + (i + 1) * (na + nb + 1) else 1 + i * (na + nb + 1)) (p'[k]?.getD 0))
      S3 hA' T2 ⟨p, ys, c, rfl, hvp, rfl, hmb, hmf, ⟨_, rfl⟩, rfl, fun k => (hbits k).mono (by split <;> (first | lia | omega))⟩ ?_ ?_
    · rintro j z t' v2 m2 mu2 own2 h3 tk3 hzj hs3 hJ S4 TT2 hT2
      refine ex3 hJ fun p' ys' c' hK => ?_
      clear hJ
      refine and8 hK fun hmu hvp' hp' hmb' hmf' hone hleft hbits' => ?_
      clear hK
      subst hmu
      obtain ⟨t1, hone⟩ := hone
      refine byP fun PP hPP => ?_
      obtain ⟨qz, hqz, hrz⟩ := hvb.item hzj
      refine hPP ?_
      clear hPP
      have hrz1 : RatAt v2 z qz := hrz.mono ((hs1.trans hs2).trans hs3)
      have hbz := hnb qz (List.mem_of_getElem? hqz)
      have hjl : j < b.length := (List.getElem?_eq_some_iff.mp hqz).1
      have etk : b.take (j + 1) = b.take j ++ [qz] := by rw [List.take_add_one, hqz]; rfl
      have hpl' : p'.length = a.length + b.length - 1 := by rw [hp', mulRow_length, hpl]
      have ek : ((i : Int) + (j : Int)).toNat = i + j := ar8 _ _
      repeat' walk1
      refine muItem (by assumption) (a := f) (xs := ys') (c := c') (by simp) hvp' (by (first | lia | omega)) (by (first | lia | omega)) (by (first | lia | omega)) fun y hy => ?_
      rw [ek] at hy
      have hby := hbits' (i + j)
      rw [if_neg (Nat.lt_irrefl _)] at hby
      have hnew := (hby.add (hbx.mul hbz)).mono (k := 1 + (i + 1) * (na + nb + 1)) (by (first | lia | omega))
      have hb2 : Hb 67108864 (qx * qz) := (hbx.mul hbz).mono hM
      have hb1 : Hb 67108864 (p'[i + j]?.getD 0) := hby.mono (by (first | lia | omega))
      dsimp only
      repeat' walk1
      rename St _ _ _ _ _ _ _ => S5
      rename RatAt _ _ (p'[i + j]?.getD 0 + qx * qz) => hr5
      rw [← List.append_assoc] at S5
      have hyl := hvp'.length
      refine setS S5 (by (first | lia | omega)) (by (first | lia | omega)) (by (first | lia | omega)) fun h6 S6 => ?_
      repeat' walk1
      rw [ek, List.append_assoc] at S6
      refine hT2 _ _ (turnEnd S6 (by walk_at "m.sub") (ex3i (addAt p' (i + j) (qx * qz)) _ c' ⟨rfl, ?_, ?_, ?_, ?_, ?_, ?_, ?_⟩))
      · exact (hvp'.mono (by walk_at "m.sub")).set hr5 (i + j)
      · rw [etk, mulRow_snoc, ← hp', List.length_take, Nat.min_eq_left (by (first | lia | omega))]
      · walk_at "m.map"
      · walk_at "m.map"
      · exact ⟨t1, by walk_at "m.map"⟩
      · walk_at "m.map"
      · intro k
        rw [addAt_get _ _ _ _ (by (first | lia | omega))]
        by_cases hk : k = i + j
        · subst hk
          rw [if_pos rfl, if_pos (by (first | lia | omega))]
          exact hnew
        · rw [if_neg hk]
          refine (hbits' k).mono ?_
          split <;> split <;> (first | lia | omega)
    · rintro v2 m2 mu2 h3 tk3 hs3 hJ S4
      refine ex3 hJ fun p' ys' c' hK => ?_
      clear hJ
      refine and8 hK fun hmu hvp' hp' hmb' hmf' hone hleft hbits' => ?_
      clear hK
      subst hmu
      obtain ⟨t1, hone⟩ := hone
      dsimp only
      repeat' walk1
      rw [hlb, List.take_length] at hp'
      refine hT _ _ (turnEnd S4 (by walk_at "m.sub") ⟨p', ⟨_, _, rfl, hvp'⟩, ?_, hmb', hmf', fun k => (hbits' k).mono (by split <;> (first | lia | omega))⟩)
      rw [etake, mulAll_snoc, hp', hp, List.length_take, Nat.min_eq_left (by (first | lia | omega)), Nat.zero_add]
  · rintro v1 m1 mu1 h tk hs2 hPat S2
    refine byP fun PP hPP => ?_
    obtain ⟨p, ⟨ys, c, rfl, hvp⟩, hp, hmb, hmf, hbits⟩ := hPat
    refine hPP ?_
    clear hPP
    rw [hla, List.take_length] at hp
    dsimp only
    repeat' walk1
    subst hp
    exact kk _ _ _ _ S2.freeze.gr ⟨f, c, ys, rfl, addV_self _ _ _, hvp.mono S2.subFreeze⟩
local macro_rules | `(tactic| walk_at "m.spec") => `(tactic| exact qmul_ok (by walk_at "m.poly") (by walk_at "m.poly") (by walk_at "m.len") (by walk_at "m.len") ‹_› ‹_› (by walk_at "m.num") (by walk_at "m.num"))

def ev : List Rat → Rat → Rat
  | [], _ => 0
  | c :: p, x => c + x * ev p x
theorem ev_append : ∀ (p q : List Rat) (x : Rat), ev (p ++ q) x = ev p x + x ^ p.length * ev q x
  | [], q, x => by simp [ev]; grind
  | c :: p, q, x => by
    show c + x * ev (p ++ q) x = c + x * ev p x + x ^ (p.length + 1) * ev q x
    rw [ev_append p q x, Rat.pow_succ]; grind
theorem ev_zero : ∀ {p : List Rat} (x : Rat), (∀ q ∈ p, q = 0) → ev p x = 0
  | [], _, _ => rfl
  | c :: p, x, h => by
    show c + x * ev p x = 0
    rw [h c (.head _), ev_zero x fun q hq => h q (.tail _ hq)]; grind
theorem ev_replicate (k : Nat) (x : Rat) : ev (List.replicate k 0) x = 0 := ev_zero x fun q hq => List.eq_of_mem_replicate hq
theorem ev_trim : ∀ (p : List Rat) (x : Rat), ev (trim p) x = ev p x
  | [], _ => rfl
  | c :: p, x => by
    have ih := ev_trim p x
    show ev (match trim p with | [] => if c = 0 then [] else [c] | r => c :: r) x = c + x * ev p x
    rw [← ih]
    cases h : trim p with
    | nil =>
      by_cases hc : c = 0
      · simp only [if_pos hc, ev]; grind
      · simp only [if_neg hc, ev]
    | cons a r => rfl
theorem ev_mul : ∀ (p : List Rat) (r x : Rat), ev (p.map fun q => q * r) x = ev p x * r
  | [], r, x => by show (0 : Rat) = 0 * r; grind
  | c :: p, r, x => by
    show c * r + x * ev (p.map fun q => q * r) x = (c + x * ev p x) * r
    rw [ev_mul p r x]; grind
theorem ev_neg : ∀ (p : List Rat) (x : Rat), ev (p.map fun q => -q) x = -ev p x
  | [], x => by show (0 : Rat) = -0; grind
  | c :: p, x => by
    show -c + x * ev (p.map fun q => -q) x = -(c + x * ev p x)
    rw [ev_neg p x]; grind
theorem addRaw_cons (c d : Rat) (a b : List Rat) : addRaw (c :: a) (d :: b) = (c + d) :: addRaw a b := by
  unfold addRaw
  rw [List.length_cons, List.length_cons, show max (a.length + 1) (b.length + 1) = max a.length b.length + 1 by (first | lia | omega), List.range_succ_eq_map, List.map_cons, List.map_map]
  rfl
theorem addRaw_nil_left (b : List Rat) : addRaw [] b = b := by
  refine List.ext_getElem? fun i => ?_
  unfold addRaw
  rw [List.getElem?_map]
  by_cases h : i < b.length
  · rw [List.getElem?_range (by simpa using h)]
    show some ((0 : Rat) + b[i]?.getD 0) = b[i]?
    rw [List.getElem?_eq_getElem h]
    show some (0 + b[i]) = some b[i]
    rw [Rat.zero_add]
  · rw [List.getElem?_eq_none (l := b) (by (first | lia | omega)), List.getElem?_eq_none (l := List.range _) (by simp; (first | lia | omega))]; rfl
theorem addRaw_nil_right (a : List Rat) : addRaw a [] = a := by
  refine List.ext_getElem? fun i => ?_
  unfold addRaw
  rw [List.getElem?_map]
  by_cases h : i < a.length
  · rw [List.getElem?_range (by simpa using h)]
    show some (a[i]?.getD 0 + (0 : Rat)) = a[i]?
    rw [List.getElem?_eq_getElem h]
    show some (a[i] + 0) = some a[i]
    rw [Rat.add_zero]
  · rw [List.getElem?_eq_none (l := a) (by (first | lia | omega)), List.getElem?_eq_none (l := List.range _) (by simp; (first | lia | omega))]; rfl
theorem ev_addRaw : ∀ (a b : List Rat) (x : Rat), ev (addRaw a b) x = ev a x + ev b x
  | [], b, x => by rw [addRaw_nil_left]; show _ = 0 + _; grind
  | c :: a, [], x => by rw [addRaw_nil_right]; show _ = _ + 0; grind
  | c :: a, d :: b, x => by
    rw [addRaw_cons]
    show c + d + x * ev (addRaw a b) x = c + x * ev a x + (d + x * ev b x)
    rw [ev_addRaw a b x]; grind
theorem ev_set : ∀ (f : List Rat) (k : Nat) (c x : Rat), k < f.length → ev (f.set k c) x = ev f x + (c - f[k]?.getD 0) * x ^ k
  | [], k, c, x, h => absurd h (Nat.not_lt_zero _)
  | q :: f, 0, c, x, h => by
    show c + x * ev f x = q + x * ev f x + (c - q) * x ^ 0
    rw [Rat.pow_zero]; grind
  | q :: f, k + 1, c, x, h => by
    show q + x * ev (f.set k c) x = q + x * ev f x + (c - f[k]?.getD 0) * x ^ (k + 1)
    rw [ev_set f k c x (Nat.lt_of_succ_lt_succ h), Rat.pow_succ]; grind
theorem ev_addAt (f : List Rat) (k : Nat) (c x : Rat) (h : k < f.length) : ev (addAt f k c) x = ev f x + c * x ^ k := by
  unfold addAt
  rw [ev_set f k _ x h]; grind
theorem ev_mulRow : ∀ (b f : List Rat) (off : Nat) (c x : Rat), off + b.length ≤ f.length → ev (mulRow f off c b) x = ev f x + c * x ^ off * ev b x
  | [], f, off, c, x, h => by show ev f x = ev f x + c * x ^ off * 0; grind
  | q :: b, f, off, c, x, h => by
    rw [List.length_cons] at h
    show ev (mulRow (addAt f off (c * q)) (off + 1) c b) x = ev f x + c * x ^ off * (q + x * ev b x)
    rw [ev_mulRow b _ _ _ _ (by rw [addAt_length]; (first | lia | omega)), ev_addAt _ _ _ _ (by (first | lia | omega)), Rat.pow_succ]; grind
theorem ev_mulAll : ∀ (a f : List Rat) (off : Nat) (b : List Rat) (x : Rat), off + a.length + b.length ≤ f.length + 1 → ev (mulAll f off b a) x = ev f x + x ^ off * (ev a x * ev b x)
  | [], f, off, b, x, h => by show ev f x = ev f x + x ^ off * (0 * ev b x); grind
  | c :: a, f, off, b, x, h => by
    rw [List.length_cons] at h
    show ev (mulAll (mulRow f off c b) (off + 1) b a) x = ev f x + x ^ off * ((c + x * ev a x) * ev b x)
    rw [ev_mulAll a _ _ _ _ (by rw [mulRow_length]; (first | lia | omega)), ev_mulRow _ _ _ _ _ (by (first | lia | omega)), Rat.pow_succ]; grind

def Trimmed (p : List Rat) : Prop := p.getLast? ≠ some 0
theorem trim_trimmed : ∀ p : List Rat, Trimmed (trim p)
  | [] => by simp [trim, Trimmed]
  | c :: p => by
    have ih := trim_trimmed p
    unfold Trimmed at *
    show (match trim p with | [] => if c = 0 then [] else [c] | r => c :: r).getLast? ≠ some 0
    cases h : trim p with
    | nil =>
      by_cases hc : c = 0
      · simp [hc]
      · simp [hc]
    | cons a r =>
      rw [h] at ih
      simpa using ih
theorem trim_length : ∀ p : List Rat, (trim p).length ≤ p.length
  | [] => Nat.le_refl _
  | c :: p => by
    have ih := trim_length p
    show (match trim p with | [] => if c = 0 then [] else [c] | r => c :: r).length ≤ p.length + 1
    cases h : trim p with
    | nil => by_cases hc : c = 0 <;> simp [hc]
    | cons a r => rw [h] at ih; simpa using ih
theorem trim_mem : ∀ {p : List Rat} {q : Rat}, q ∈ trim p → q ∈ p
  | [], q, h => h
  | c :: p, q, h => by
    have ih := @trim_mem p q
    have h' : q ∈ (match trim p with | [] => if c = 0 then [] else [c] | r => c :: r) := h
    cases e : trim p with
    | nil =>
      rw [e] at h'
      by_cases hc : c = 0
      · simp [hc] at h'
      · simp [hc] at h'; simp [h']
    | cons a r =>
      rw [e] at h' ih
      rcases List.mem_cons.mp h' with rfl | h'
      · exact .head _
      · exact .tail _ (ih h')

local macro_rules | `(tactic| walk_at "m.spec") => `(tactic| exact qsub_ok (by walk_at "m.poly") (by walk_at "m.poly") (by walk_at "m.len") (by walk_at "m.len") ‹_› ‹_› (by lia) (by lia))
def itB (na nb : Nat) : Nat → Nat
  | 0 => na
  | i + 1 => 2 * itB na nb i + 2 * nb + 1
theorem itB_step (na nb i : Nat) : itB na nb i ≤ itB na nb (i + 1) := by show _ ≤ 2 * itB na nb i + 2 * nb + 1; (first | lia | omega)
theorem itB_mono (na nb : Nat) {i j : Nat} (h : i ≤ j) : itB na nb i ≤ itB na nb j := by
  induction h with
  | refl => exact Nat.le_refl _
  | step _ ih => exact Nat.le_trans ih (itB_step ..)
theorem itB_ge (na nb i : Nat) : na ≤ itB na nb i := itB_mono na nb (Nat.zero_le i)
theorem last_split {p : List Rat} {c : Rat} (h : p.getLast? = some c) : p = p.dropLast ++ [c] := by
  obtain ⟨h1, h2⟩ := List.getLast?_eq_some_iff.mp h
  rw [h2]; simp
def scl (b : List Rat) (c : Rat) : List Rat := if c = 0 then [] else b.map fun q => q * c
def rai (b : List Rat) (k : Nat) : List Rat := if b = [] then [] else List.replicate k 0 ++ b
def stepR (r b : List Rat) (c : Rat) (k : Nat) : List Rat := trim (addRaw r.dropLast ((rai (scl b.dropLast c) k).map fun q => -q))
theorem ev_scl (b : List Rat) (c x : Rat) : ev (scl b c) x = ev b x * c := by
  unfold scl
  by_cases h : c = 0
  · rw [if_pos h, h]; show (0 : Rat) = _; grind
  · rw [if_neg h, ev_mul]
theorem ev_rai (b : List Rat) (k : Nat) (x : Rat) : ev (rai b k) x = x ^ k * ev b x := by
  unfold rai
  by_cases h : b = []
  · rw [if_pos h, h]; show (0 : Rat) = _ * 0; grind
  · rw [if_neg h, ev_append, ev_replicate, List.length_replicate]; grind
theorem scl_length (b : List Rat) (c : Rat) : (scl b c).length ≤ b.length := by unfold scl; split <;> simp
theorem rai_length (b : List Rat) (k : Nat) : (rai b k).length ≤ k + b.length := by unfold rai; split <;> simp
theorem rpow_add (x : Rat) (a : Nat) : ∀ b : Nat, x ^ (a + b) = x ^ a * x ^ b
  | 0 => by rw [Rat.pow_zero]; show x ^ a = _; grind
  | b + 1 => by rw [← Nat.add_assoc, Rat.pow_succ, Rat.pow_succ, rpow_add x a b]; grind
theorem stepR_ev {r b : List Rat} {rl bl : Rat} {k : Nat} (hr : r.getLast? = some rl) (hb : b.getLast? = some bl) (h0 : bl ≠ 0) (hk : r.length = k + b.length) (x : Rat) : ev (stepR r b (rl / bl) k) x = ev r x - rl / bl * x ^ k * ev b x := by
  have e1 := last_split hr
  have e2 := last_split hb
  have hl : r.dropLast.length = k + b.dropLast.length := by
    have := congrArg List.length e1
    have := congrArg List.length e2
    rw [List.length_append] at *; simp at *; (first | lia | omega)
  have e3 : ev r x = ev r.dropLast x + x ^ r.dropLast.length * rl := by
    conv => lhs; rw [e1, ev_append]
    show _ + _ * (rl + x * 0) = _; grind
  have e4 : ev b x = ev b.dropLast x + x ^ b.dropLast.length * bl := by
    conv => lhs; rw [e2, ev_append]
    show _ + _ * (bl + x * 0) = _; grind
  have e5 : rl / bl * bl = rl := by rw [Rat.div_mul_cancel h0]
  unfold stepR
  rw [ev_trim, ev_addRaw, ev_neg, ev_rai, ev_scl, e3, e4, hl, rpow_add]
  generalize rl / bl = c at *
  subst e5
  grind
theorem stepR_length {r b : List Rat} {c : Rat} {k : Nat} (hk : r.length = k + b.length) (hb : b ≠ []) : (stepR r b c k).length + 1 ≤ r.length := by
  have h1 := trim_length (addRaw r.dropLast ((rai (scl b.dropLast c) k).map fun q => -q))
  have h2 := rai_length (scl b.dropLast c) k
  have h3 := scl_length b.dropLast c
  have h4 := List.length_pos_iff.mpr hb
  rw [addRaw_length, List.length_map, List.length_dropLast] at h1
  rw [List.length_dropLast] at h3
  unfold stepR
  (first | lia | omega)
theorem addRaw_bits {a b : List Rat} {n k : Nat} (ha : ∀ q ∈ a, Hb n q) (hb : ∀ q ∈ b, Hb k q) (hn : 1 ≤ n) (hk : 1 ≤ k) : ∀ q ∈ addRaw a b, Hb (n + k + 1) q := by
  intro q hq
  unfold addRaw at hq
  obtain ⟨i, hi, rfl⟩ := List.mem_map.mp hq
  exact (hb_get ha hn i).add (hb_get hb hk i)
theorem trim_bits {a : List Rat} {n : Nat} (ha : ∀ q ∈ a, Hb n q) : ∀ q ∈ trim a, Hb n q := fun q hq => ha q (trim_mem hq)
theorem neg_bits {a : List Rat} {n : Nat} (ha : ∀ q ∈ a, Hb n q) : ∀ q ∈ a.map fun q => -q, Hb n q := by
  intro q hq
  obtain ⟨i, hi, rfl⟩ := List.mem_map.mp hq
  exact (ha _ hi).neg
theorem scl_bits {a : List Rat} {c : Rat} {n k : Nat} (ha : ∀ q ∈ a, Hb n q) (hc : Hb k c) : ∀ q ∈ scl a c, Hb (n + k) q := by
  intro q hq
  unfold scl at hq
  split at hq
  · cases hq
  · obtain ⟨i, hi, rfl⟩ := List.mem_map.mp hq
    exact (ha _ hi).mul hc
theorem rai_bits {a : List Rat} {n k : Nat} (ha : ∀ q ∈ a, Hb n q) (hn : 1 ≤ n) : ∀ q ∈ rai a k, Hb n q := by
  intro q hq
  unfold rai at hq
  split at hq
  · cases hq
  · rcases List.mem_append.mp hq with h | h
    · rw [List.eq_of_mem_replicate h]; exact Hb.zero hn
    · exact ha _ h
theorem drop_bits {a : List Rat} {n : Nat} (ha : ∀ q ∈ a, Hb n q) : ∀ q ∈ a.dropLast, Hb n q := fun q hq => ha q (List.dropLast_subset _ hq)
theorem bits_mono {a : List Rat} {n k : Nat} (ha : ∀ q ∈ a, Hb n q) (h : n ≤ k) : ∀ q ∈ a, Hb k q := fun q hq => (ha q hq).mono h
theorem last_mem {p : List Rat} {c : Rat} (h : p.getLast? = some c) : c ∈ p := by rw [last_split h]; simp
theorem last_some {p : List Rat} (h : p ≠ []) : ∃ c, p.getLast? = some c := ⟨_, List.getLast?_eq_some_getLast h⟩

local macro_rules | `(tactic| walk_at "subscriptTail Name UnaryOp") => `(tactic| (refine polyLast ‹_› (by walk_at "m.poly") (by with_reducible assumption) ?_; intro _ _; (try dsimp only)))
def PairAt (v : View) (z : Value) (O1 O2 : View → Value → Prop) : Prop := ∃ a x y n, z = .ref a ∧ v a = some { cls := .type "tuple", data := .seq [x, y].toArray n } ∧ O1 v x ∧ O2 v y
structure DivOf (a b q r : List Rat) (na nb : Nat) : Prop where
  ev : ∀ x, ev a x = ev q x * ev b x + ev r x
  tr : Trimmed r
  tq : Trimmed q
  lr : r.length < b.length
  la : r.length ≤ a.length
  lq : q.length ≤ a.length + 1 - b.length
  br : ∀ c ∈ r, Hb (itB na nb (a.length + 1 - b.length)) c
  bq : ∀ c ∈ q, Hb (itB na nb (a.length - b.length) + nb) c
theorem qdivmod_ok {w : World} {v : View} {x y : Value} {a b : List Rat} {na nb : Nat} (hx : PolyAt v x a) (hy : PolyAt v y b) (ha : a.length ≤ 100) (hb : b.length ≤ 100) (hna : ∀ q ∈ a, Hb na q) (hnb : ∀ q ∈ b, Hb nb q)
    (h1 : 1 ≤ na) (h2 : 1 ≤ nb) (hta : Trimmed a) (htb : Trimmed b) (hb0 : b ≠ []) (hB : itB na nb (a.length + 1 - b.length) ≤ 67108864) :
    Spec w 135 6 [x, y] v (fun v' z => ∃ q r, PairAt v' z (fun v x => PolyAt v x q) (fun v x => PolyAt v x r) ∧ DivOf a b q r na nb) := by
  intro A E s Q hA hG hv hB' kk
  refine enter hA hG hv (by rfl) (by kernel_rfl!) (BindsTo.of_eq rfl) (locs rfl) ?_
  intro L h₁ tk env A' S hA'
  (try dsimp only)
  have hbl := List.length_pos_iff.mpr hb0
  obtain ⟨bl, hbl'⟩ := last_some hb0
  have hbl0 : bl ≠ 0 := fun e => htb (by rw [hbl', e])
  repeat' walk1
  · exact absurd ‹(b.length : Int) = 0› (by (first | lia | omega))
  have ela : (max 0 ((a.length : Int) - b.length + 1)).toNat = a.length + 1 - b.length := by (first | lia | omega)
  rename St _ _ _ _ _ _ _ => S2
  rename PolyAt _ _ a => hr0
  have hsub : Sub v _ := S2.gr.sub
  clear hx
  rename_i F _ _ _ _ _ _ _ _ _ _ _ _ _ _ _ _ _
  refine whileS (fun k v m mu => ∃ r f ys c i xr, k = r.length ∧ m (Str.ofString "rest") = some xr ∧ PolyAt v xr r ∧ m (Str.ofString "b") = some y ∧ mu = [(F, lstN ys c)] ∧ m (Str.ofString "found") = some (.ref F) ∧ Vals v ys f ∧
      f.length = a.length + 1 - b.length ∧ (∀ x, ev a x = ev f x * ev b x + ev r x) ∧ Trimmed r ∧ r.length + i ≤ a.length ∧ (∀ j, j + b.length ≤ r.length → f[j]?.getD 0 = 0) ∧
      i ≤ a.length + 1 - b.length ∧ (∀ c ∈ r, Hb (itB na nb i) c) ∧ (∀ c ∈ f, Hb (itB na nb (a.length - b.length) + nb) c))
    S2 _ (ex6i a (List.replicate (a.length + 1 - b.length) 0) _ _ 0 _ ⟨rfl, rfl, ?_, rfl, rfl, rfl, by rw [ela]; exact Vals.replicate (q := 0) (by walk_at "m.rat") _, List.length_replicate, ?_, hta, by (first | lia | omega), ?_, by (first | lia | omega), hna, ?_⟩) ?_
  · clear hsub; exact hr0.mono (by walk_at "m.sub")
  · intro x; rw [ev_replicate]; grind
  · intro j _; rw [List.getElem?_replicate]; split <;> rfl
  · intro c hc; rw [List.eq_of_mem_replicate hc]; exact Hb.zero (by (first | lia | omega))
  clear ela
  rintro k v1 m1 mu1 h tk hs1 hJ S3 TT hT
  refine ex6 hJ fun r f ys c i xr hK => ?_
  clear hJ
  refine and15 hK fun hk hmr hpr hmb hmu hmf hvf hfl hev htr hri hz hi hbr hbf => ?_
  clear hK
  subst hmu
  have hy1 : PolyAt v1 y b := hy.mono (hsub.trans hs1)
  have hr100 : r.length ≤ 100 := by (first | lia | omega)
  repeat' walk1
  · rename ((b.length : Int) ≤ r.length) => hle
    obtain ⟨rl, hrl⟩ := last_some (p := r) (by intro e; rw [e] at hle; have : (b.length : Int) ≤ 0 := hle; (first | lia | omega))
    have hbi : Hb (itB na nb i) rl := hbr _ (last_mem hrl)
    have hbb : Hb nb bl := hnb _ (last_mem hbl')
    have hge := itB_ge na nb i
    have hst := itB_mono na nb (i := i + 1) (j := a.length + 1 - b.length) (by (first | lia | omega))
    have hst' : 2 * itB na nb i + 2 * nb + 1 ≤ 67108864 := Nat.le_trans hst hB
    have hcf : itB na nb i ≤ itB na nb (a.length - b.length) := itB_mono na nb (by (first | lia | omega))
    have hnext : itB na nb (i + 1) = 2 * itB na nb i + 2 * nb + 1 := rfl
    generalize itB na nb i = B at *
    have hbc : Hb (B + nb) (rl / bl) := hbi.div hbb hbl0
    have hbd := drop_bits hnb
    have hbr' : ∀ q ∈ r.dropLast, Hb (B + 2 * nb) q := bits_mono (drop_bits hbr) (by (first | lia | omega))
    have hsl : (if rl / bl = 0 then [] else b.dropLast.map fun q => q * (rl / bl)).length ≤ 1000 := by
      have := scl_length b.dropLast (rl / bl)
      rw [List.length_dropLast] at this
      show (scl _ _).length ≤ _
      (first | lia | omega)
    have ek : ((r.length : Int) - b.length).toNat = r.length - b.length := ar3 _ _
    have hra : (if (if rl / bl = 0 then [] else b.dropLast.map fun q => q * (rl / bl)) = [] then [] else List.replicate ((r.length : Int) - b.length).toNat 0 ++ (if rl / bl = 0 then [] else b.dropLast.map fun q => q * (rl / bl))).length ≤ 1000 := by
      have := rai_length (scl b.dropLast (rl / bl)) ((r.length : Int) - b.length).toNat
      have := scl_length b.dropLast (rl / bl)
      rw [List.length_dropLast] at this
      show (rai (scl _ _) _).length ≤ _
      (first | lia | omega)
    have hbra : ∀ q ∈ (if (if rl / bl = 0 then [] else b.dropLast.map fun q => q * (rl / bl)) = [] then [] else List.replicate ((r.length : Int) - b.length).toNat 0 ++ (if rl / bl = 0 then [] else b.dropLast.map fun q => q * (rl / bl))), Hb (B + 2 * nb) q := by
      show ∀ q ∈ rai (scl _ _) _, _
      exact bits_mono (rai_bits (scl_bits hbd hbc) (by (first | lia | omega))) (by (first | lia | omega))
    repeat' walk1
    rename St _ _ _ _ _ _ _ => S5
    rename RatAt _ _ (rl / bl) => hr5
    have hyl := hvf.length
    refine setS (pre := []) (mu := []) S5 (by (first | lia | omega)) (by (first | lia | omega)) (by (first | lia | omega)) fun h6 S6 => ?_
    change St _ _ _ _ _ _ [(F, _)] at S6
    clear S5
    repeat' walk1
    rename St _ _ _ _ _ _ _ => S7
    rename PolyAt _ _ (trim _) => hp7
    rw [ek] at S7
    rw [ek] at hp7
    have hp8 := id hp7
    change PolyAt _ _ (stepR r b (rl / bl) (r.length - b.length)) at hp8
    have hlen := stepR_length (r := r) (b := b) (c := rl / bl) (k := r.length - b.length) (by (first | lia | omega)) hb0
    refine hT _ _ (turnEnd S7 (by walk_at "m.sub") ⟨_, ?_, ex6i (stepR r b (rl / bl) (r.length - b.length)) (f.set (r.length - b.length) (rl / bl)) _ c (i + 1) _ ⟨rfl, by walk_at "m.map", hp8, by walk_at "m.map", rfl, by walk_at "m.map", (hvf.mono (by walk_at "m.sub")).set (hr5.mono (by walk_at "m.sub")) _, by rw [List.length_set, hfl], ?_, trim_trimmed _, by (first | lia | omega), ?_, by (first | lia | omega), ?_, ?_⟩⟩)
    · (first | lia | omega)
    · intro z
      rw [stepR_ev hrl hbl' hbl0 (by (first | lia | omega)), ev_set _ _ _ _ (by (first | lia | omega)), hz _ (by (first | lia | omega)), hev z]; grind
    · intro j hj
      rw [List.getElem?_set, if_neg (by (first | lia | omega))]
      exact hz j (by (first | lia | omega))
    · rw [hnext]
      exact trim_bits (bits_mono (addRaw_bits (drop_bits hbr) (neg_bits (bits_mono (rai_bits (scl_bits hbd hbc) (by (first | lia | omega))) (show nb + (B + nb) ≤ B + 2 * nb by (first | lia | omega)))) (by (first | lia | omega)) (by (first | lia | omega))) (by (first | lia | omega)))
    · intro z hz'
      rcases List.mem_or_eq_of_mem_set hz' with h | h
      · exact hbf z h
      · rw [h]; exact hbc.mono (by (first | lia | omega))
  · have S4 := S3.freeze
    have hs2 := S3.subFreeze
    have hF : PolyAt _ (.ref F) f := ⟨F, c, ys, rfl, addV_self _ _ _, hvf.mono hs2⟩
    replace hpr := hpr.mono hs2
    generalize addV v1 F _ = v2 at *
    clear S3 S2
    repeat' walk1
    refine kk _ _ _ _ (St.gr (by assumption)) ⟨trim f, r, ⟨_, _, _, 0, rfl, by assumption, by walk_at "m.poly", by walk_at "m.poly"⟩, ?_⟩
    have := trim_length f
    exact ⟨fun z => by rw [ev_trim]; exact hev z, htr, trim_trimmed f, by (first | lia | omega), by (first | lia | omega), by (first | lia | omega), bits_mono hbr (itB_mono _ _ hi), trim_bits hbf⟩

local macro_rules | `(tactic| walk_at "m.spec") => `(tactic| exact qdivmod_ok (by walk_at "m.poly") (by walk_at "m.poly") (by walk_at "m.len") (by walk_at "m.len") ‹_› ‹_› ‹_› ‹_› ‹_› ‹_› ‹_› ‹_›)
def mon (p : List Rat) : List Rat := match p.getLast? with
  | none => []
  | some c => scl p c⁻¹
theorem qmonic_ok {w : World} {v : View} {x : Value} {p : List Rat} {n : Nat} (hx : PolyAt v x p) (hs : Short p) (hp : ∀ q ∈ p, Hb n q) (ht : Trimmed p) (hn : n + n ≤ 134217728) :
    Spec w 142 5 [x] v (fun v' z => PolyAt v' z (mon p)) := by
  intro A E s Q hA hG hv hB kk
  refine enter hA hG hv (by rfl) (by kernel_rfl!) (BindsTo.of_eq rfl) (locs rfl) ?_
  intro L h₁ tk env A' S hA'
  (try dsimp only)
  unfold mon at kk
  cases e : p.getLast? with
  | none =>
    rw [e] at kk
    have e' : p = [] := List.getLast?_eq_none_iff.mp e
    subst e'
    repeat' walk1
    exact kk _ _ _ _ (St.gr (by assumption)) (by assumption)
  | some c =>
    rw [e] at kk
    have hl : 0 < p.length := List.length_pos_iff.mpr fun q => by rw [q] at e; cases e
    have hc : c ≠ 0 := fun q => ht (by rw [e, q])
    have hbc := hp c (last_mem e)
    have hbi := hbc.inv hc
    repeat' walk1
    · exact kk _ _ _ _ (St.gr (by assumption)) (by assumption)
    · exact absurd ‹¬ (0 : Int) < _› (by (first | lia | omega))
local macro_rules | `(tactic| walk_at "m.spec") => `(tactic| exact qmonic_ok (by walk_at "m.poly") (by walk_at "m.short") ‹_› ‹_› ‹_›)

def cb (l : Nat) : Nat := 2 ^ (24 - 5 * l)
theorem cb_fin : ∀ n0 n1 : Fin 5, 1 ≤ n1.val → itB (cb (max n0.val n1.val)) (cb n1.val) (n0.val + 1 - n1.val) ≤ 67108864 ∧ itB (cb (max n0.val n1.val)) (cb n1.val) (n0.val - n1.val) + cb n1.val + cb n1.val ≤ 67108864 ∧ cb (max n0.val n1.val) ≤ cb n1.val := by decide +kernel
theorem cb_fin2 : ∀ n0 n1 n2 : Fin 5, n2.val < n1.val → 1 ≤ n2.val → 2 * itB (cb (max n0.val n1.val)) (cb n1.val) (n0.val + 1 - n1.val) ≤ cb n2.val := by decide +kernel
theorem cb_fin3 : ∀ n0 n1 lq : Fin 5, 1 ≤ n1.val → lq.val < n0.val + 2 - n1.val → 1 + lq.val * (itB (cb (max n0.val n1.val)) (cb n1.val) (n0.val - n1.val) + cb n1.val + cb n1.val + 1) ≤ 67108864 := by decide +kernel
theorem cb_fin4 : ∀ n0 n1 lq n2 : Fin 5, lq.val < n0.val + 2 - n1.val ∨ lq.val = 0 → n2.val < n1.val → 1 ≤ n2.val → cb n1.val + (1 + lq.val * (itB (cb (max n0.val n1.val)) (cb n1.val) (n0.val - n1.val) + cb n1.val + cb n1.val + 1)) + 1 ≤ cb n2.val := by decide +kernel
theorem cb_pos (l : Nat) : 1 ≤ cb l := Nat.one_le_two_pow
theorem cb_le : ∀ l, cb l ≤ 16777216 := fun l => by
  show 2 ^ (24 - 5 * l) ≤ 2 ^ 24
  exact Nat.pow_le_pow_right (by decide) (Nat.sub_le ..)

def co (p : List Rat) (i : Nat) : Rat := p[i]?.getD 0
theorem co_cons0 (c : Rat) (p : List Rat) : co (c :: p) 0 = c := rfl
theorem co_cons (c : Rat) (p : List Rat) (i : Nat) : co (c :: p) (i + 1) = co p i := rfl
theorem co_out {p : List Rat} {i : Nat} (h : p.length ≤ i) : co p i = 0 := by unfold co; rw [List.getElem?_eq_none h]; rfl
theorem co_add (p q : List Rat) (i : Nat) : co (addRaw p q) i = co p i + co q i := by
  by_cases h : i < max p.length q.length
  · unfold co addRaw
    rw [List.getElem?_map, List.getElem?_range h]; rfl
  · rw [co_out (by rw [addRaw_length]; (first | lia | omega)), co_out (by (first | lia | omega)), co_out (by (first | lia | omega))]; grind
theorem co_map (p : List Rat) (c : Rat) (i : Nat) : co (p.map fun q => q * c) i = co p i * c := by
  unfold co
  rw [List.getElem?_map]
  cases p[i]? with
  | none => show (0 : Rat) = 0 * c; grind
  | some q => rfl
theorem trimmed_iff {p : List Rat} (h : p ≠ []) : Trimmed p ↔ co p (p.length - 1) ≠ 0 := by
  unfold Trimmed co
  rw [List.getLast?_eq_getElem?]
  have hl := List.length_pos_iff.mpr h
  rw [List.getElem?_eq_getElem (by (first | lia | omega))]
  simp
theorem trimmed_nil : Trimmed [] := by simp [Trimmed]
def sdiv (r : Rat) : List Rat → List Rat
  | [] => []
  | _ :: p => addRaw p ((sdiv r p).map fun q => q * r)
theorem sdiv_length (r : Rat) : ∀ p, (sdiv r p).length = p.length - 1
  | [] => rfl
  | c :: p => by
    show (addRaw p _).length = p.length + 1 - 1
    rw [addRaw_length, List.length_map, sdiv_length r p]; (first | lia | omega)
theorem sdiv_ev (r : Rat) : ∀ (p : List Rat) (x : Rat), ev p x = ev p r + (x - r) * ev (sdiv r p) x
  | [], x => by show (0 : Rat) = 0 + (x - r) * 0; grind
  | c :: p, x => by
    show c + x * ev p x = c + r * ev p r + (x - r) * ev (addRaw p _) x
    rw [ev_addRaw, ev_mul]
    have := sdiv_ev r p x
    grind
theorem sdiv_last (r c : Rat) (p : List Rat) : co (sdiv r (c :: p)) (p.length - 1) = co p (p.length - 1) := by
  show co (addRaw p _) _ = _
  rw [co_add, co_map]
  by_cases h : p = []
  · subst h; show (0 : Rat) + 0 * r = 0; grind
  · rw [co_out (p := sdiv r p) (by rw [sdiv_length]; (first | lia | omega))]; grind
theorem zero_many : ∀ (n : Nat) (p : List Rat) (N : Nat), p.length ≤ n → Trimmed p → (∀ i : Nat, N ≤ i → ev p (i : Rat) = 0) → p = []
  | 0, p, N, hn, ht, h => List.eq_nil_of_length_eq_zero (by (first | lia | omega))
  | n + 1, [], N, hn, ht, h => rfl
  | n + 1, [c], N, hn, ht, h => by
    have := h N (Nat.le_refl _)
    have h2 : c + (N : Rat) * 0 = 0 := this
    exact absurd (show c = 0 by grind) fun e => ht (by rw [e]; rfl)
  | n + 1, c :: d :: p, N, hn, ht, h => by
    have hl : (sdiv (N : Rat) (c :: d :: p)).length = p.length + 1 := sdiv_length _ _
    have hne : sdiv (N : Rat) (c :: d :: p) ≠ [] := fun e => by rw [e] at hl; cases hl
    have ht' : Trimmed (sdiv (N : Rat) (c :: d :: p)) := by
      rw [trimmed_iff hne, hl]
      have := sdiv_last (N : Rat) c (d :: p)
      show co (sdiv (N : Rat) (c :: d :: p)) ((d :: p).length - 1) ≠ 0
      rw [this]
      exact (trimmed_iff (List.cons_ne_nil _ _)).mp ht
    refine absurd (zero_many n _ (N + 1) (by rw [hl]; simp at hn; (first | lia | omega)) ht' fun i hi => ?_) hne
    have h1 := h i (by (first | lia | omega))
    rw [sdiv_ev (N : Rat), h N (Nat.le_refl _)] at h1
    have h2 : (i : Rat) - (N : Rat) ≠ 0 := fun e => by
      have : (i : Rat) = (N : Rat) := by grind
      have := Rat.natCast_inj.mp this
      (first | lia | omega)
    rcases Rat.mul_eq_zero.mp (show ((i : Rat) - (N : Rat)) * ev (sdiv (N : Rat) (c :: d :: p)) (i : Rat) = 0 by grind) with e | e
    · exact absurd e h2
    · exact e
theorem zero_row {p : List Rat} (ht : Trimmed p) (h : ∀ x, ev p x = 0) : p = [] := zero_many _ p 0 (Nat.le_refl _) ht fun i _ => h _
theorem co_trim : ∀ (p : List Rat) (i : Nat), co (trim p) i = co p i
  | [], i => rfl
  | c :: p, i => by
    have ih := co_trim p
    show co (match trim p with | [] => if c = 0 then [] else [c] | r => c :: r) i = _
    cases e : trim p with
    | nil =>
      rw [e] at ih
      cases i with
      | zero =>
        by_cases hc : c = 0
        · simp only [if_pos hc]; rw [co_cons0, hc]; rfl
        · simp only [if_neg hc]; rfl
      | succ i =>
        rw [co_cons, ← ih i]
        by_cases hc : c = 0
        · simp only [if_pos hc]; rfl
        · simp only [if_neg hc]; rfl
    | cons a r =>
      rw [e] at ih
      cases i with
      | zero => rfl
      | succ i => exact ih i
theorem co_neg (p : List Rat) (i : Nat) : co (p.map fun q => -q) i = -co p i := by
  unfold co
  rw [List.getElem?_map]
  cases p[i]? with
  | none => show (0 : Rat) = -0; grind
  | some q => rfl
theorem co_eq {p q : List Rat} (h : ∀ x, ev p x = ev q x) (i : Nat) : co p i = co q i := by
  have e : trim (addRaw p (q.map fun q => -q)) = [] := zero_row (trim_trimmed _) fun x => by rw [ev_trim, ev_addRaw, ev_neg, h x]; grind
  have := co_trim (addRaw p (q.map fun q => -q)) i
  rw [e, co_add, co_neg] at this
  have h0 : co [] i = 0 := rfl
  grind
theorem row_len {p q : List Rat} (h : ∀ i, co p i = co q i) (hp : Trimmed p) : p.length ≤ q.length := by
  by_cases hn : p = []
  · subst hn; exact Nat.zero_le _
  · have := (trimmed_iff hn).mp hp
    rw [h] at this
    rcases Nat.lt_or_ge (p.length - 1) q.length with h' | h'
    · (first | lia | omega)
    · exact absurd (co_out h') this
theorem row_eq {p q : List Rat} (h : ∀ x, ev p x = ev q x) (hp : Trimmed p) (hq : Trimmed q) : p = q := by
  have hc := co_eq h
  have h1 := row_len hc hp
  have h2 := row_len (fun i => (hc i).symm) hq
  refine List.ext_getElem (by (first | lia | omega)) fun i hi hj => ?_
  have := hc i
  unfold co at this
  rw [List.getElem?_eq_getElem hi, List.getElem?_eq_getElem hj] at this
  exact this
def pm : List Rat → List Rat → List Rat
  | [], _ => []
  | c :: p, q => addRaw (q.map fun z => z * c) (0 :: pm p q)
theorem ev_pm : ∀ (p q : List Rat) (x : Rat), ev (pm p q) x = ev p x * ev q x
  | [], q, x => by show (0 : Rat) = 0 * _; grind
  | c :: p, q, x => by
    show ev (addRaw _ _) x = (c + x * ev p x) * ev q x
    rw [ev_addRaw, ev_mul]
    show _ + (0 + x * ev (pm p q) x) = _
    rw [ev_pm p q x]; grind
theorem co_pm : ∀ (p q : List Rat), p ≠ [] → q ≠ [] → co (pm p q) (p.length + q.length - 2) = co p (p.length - 1) * co q (q.length - 1) ∧ ∀ i, p.length + q.length - 1 ≤ i → co (pm p q) i = 0
  | [], q, h, _ => absurd rfl h
  | c :: p, q, _, hq => by
    have hl := List.length_pos_iff.mpr hq
    have hs : ∀ i, co (pm (c :: p) q) i = co q i * c + co (0 :: pm p q) i := fun i => by
      show co (addRaw _ _) i = _
      rw [co_add, co_map]
    by_cases hp : p = []
    · subst hp
      refine ⟨?_, fun i hi => ?_⟩
      · rw [hs]
        have : co (0 :: pm [] q) ([c].length + q.length - 2) = 0 := by cases [c].length + q.length - 2 <;> rfl
        rw [this]
        show co q (1 + q.length - 2) * c + 0 = c * co q (q.length - 1)
        rw [show 1 + q.length - 2 = q.length - 1 by (first | lia | omega)]; grind
      · rw [hs]
        have : co (0 :: pm [] q) i = 0 := by cases i <;> rfl
        rw [this, co_out (by simp at hi; (first | lia | omega))]; grind
    · obtain ⟨h1, h2⟩ := co_pm p q hp hq
      have hp' := List.length_pos_iff.mpr hp
      refine ⟨?_, fun i hi => ?_⟩
      · rw [hs, List.length_cons, show p.length + 1 + q.length - 2 = (p.length + q.length - 2) + 1 by (first | lia | omega), co_cons, h1, co_out (by (first | lia | omega)), show p.length + 1 - 1 = (p.length - 1) + 1 by (first | lia | omega), co_cons]; grind
      · rw [List.length_cons] at hi
        rw [hs, show i = (i - 1) + 1 by (first | lia | omega), co_cons, h2 _ (by (first | lia | omega)), co_out (by (first | lia | omega))]; grind
theorem rmul_ne {a b : Rat} (ha : a ≠ 0) (hb : b ≠ 0) : a * b ≠ 0 := fun e => (Rat.mul_eq_zero.mp e).elim ha hb
theorem prod_len {f p q : List Rat} (h : ∀ x, ev f x = ev p x * ev q x) (hf : Trimmed f) (hp : Trimmed p) (hq : Trimmed q) (hp0 : p ≠ []) (hq0 : q ≠ []) : f.length = p.length + q.length - 1 ∧ co f (f.length - 1) = co p (p.length - 1) * co q (q.length - 1) := by
  have hc := co_eq (p := f) (q := pm p q) fun x => by rw [h, ev_pm]
  obtain ⟨h1, h2⟩ := co_pm p q hp0 hq0
  have hp' := List.length_pos_iff.mpr hp0
  have hq' := List.length_pos_iff.mpr hq0
  have hn := rmul_ne ((trimmed_iff hp0).mp hp) ((trimmed_iff hq0).mp hq)
  have hfl : p.length + q.length - 2 < f.length := by
    refine Nat.lt_of_not_le fun hh => ?_
    have := hc (p.length + q.length - 2)
    rw [co_out hh, h1] at this
    exact hn this.symm
  have hf0 : f ≠ [] := fun e => by rw [e] at hfl; cases hfl
  have hfe : f.length = p.length + q.length - 1 := by
    refine Nat.le_antisymm (Nat.le_of_not_lt fun hh => ?_) (by (first | lia | omega))
    have := (trimmed_iff hf0).mp hf
    rw [hc, h2 _ (by (first | lia | omega))] at this
    exact this rfl
  exact ⟨hfe, by rw [hc, hfe, show p.length + q.length - 1 - 1 = p.length + q.length - 2 by (first | lia | omega), h1]⟩
theorem prod_trimmed {f p q : List Rat} (h : ∀ x, ev f x = ev p x * ev q x) (hl : f.length = p.length + q.length - 1) (hp : Trimmed p) (hq : Trimmed q) (hp0 : p ≠ []) (hq0 : q ≠ []) : Trimmed f := by
  have hc := co_eq (p := f) (q := pm p q) fun x => by rw [h, ev_pm]
  have hp' := List.length_pos_iff.mpr hp0
  have hq' := List.length_pos_iff.mpr hq0
  obtain ⟨h1, _⟩ := co_pm p q hp0 hq0
  rw [trimmed_iff fun e => by rw [e] at hl; simp at hl; (first | lia | omega), hc, hl, show p.length + q.length - 1 - 1 = p.length + q.length - 2 by (first | lia | omega), h1]
  exact rmul_ne ((trimmed_iff hp0).mp hp) ((trimmed_iff hq0).mp hq)

structure GcdOf (a b g : List Rat) : Prop where
  mono : g = [] ∨ g.getLast? = some 1
  da : ∃ u, ∀ x, ev a x = ev u x * ev g x
  db : ∃ u, ∀ x, ev b x = ev u x * ev g x
  cmb : ∃ s t, ∀ x, ev g x = ev s x * ev a x + ev t x * ev b x
theorem GcdOf.symm {a b g : List Rat} (h : GcdOf a b g) : GcdOf b a g :=
  ⟨h.mono, h.db, h.da, let ⟨s, t, e⟩ := h.cmb; ⟨t, s, fun x => by rw [e x]; grind⟩⟩
theorem GcdOf.trimmed {a b g : List Rat} (h : GcdOf a b g) : Trimmed g := by
  rcases h.mono with e | e
  · rw [e]; exact trimmed_nil
  · unfold Trimmed; rw [e]; decide
theorem GcdOf.over {a b g g' : List Rat} (h : GcdOf a b g) (k : GcdOf a b g') : ∃ w, Trimmed w ∧ ∀ x, ev g' x = ev w x * ev g x := by
  obtain ⟨u, hu⟩ := h.da
  obtain ⟨w, hw⟩ := h.db
  obtain ⟨s, t, e⟩ := k.cmb
  exact ⟨trim (addRaw (pm s u) (pm t w)), trim_trimmed _, fun x => by rw [ev_trim, ev_addRaw, ev_pm, ev_pm, e x, hu x, hw x]; grind⟩
theorem co_last {p : List Rat} {c : Rat} (h : p.getLast? = some c) : co p (p.length - 1) = c := by
  rw [List.getLast?_eq_getElem?] at h
  unfold co; rw [h]; rfl
theorem GcdOf.unique {a b g g' : List Rat} (h : GcdOf a b g) (k : GcdOf a b g') : g = g' := by
  obtain ⟨w, hw, e⟩ := h.over k
  obtain ⟨w', hw', e'⟩ := k.over h
  by_cases hg : g = []
  · subst hg
    exact (zero_row k.trimmed fun x => by rw [e x]; show ev w x * 0 = 0; grind).symm
  by_cases hg' : g' = []
  · subst hg'
    exact zero_row h.trimmed fun x => by rw [e' x]; show ev w' x * 0 = 0; grind
  have w0 : w ≠ [] := fun q => hg' (zero_row k.trimmed fun x => by rw [e x, q]; show 0 * ev g x = 0; grind)
  have w0' : w' ≠ [] := fun q => hg (zero_row h.trimmed fun x => by rw [e' x, q]; show 0 * ev g' x = 0; grind)
  obtain ⟨l1, c1⟩ := prod_len e k.trimmed hw h.trimmed w0 hg
  obtain ⟨l2, _⟩ := prod_len e' h.trimmed hw' k.trimmed w0' hg'
  have p1 := List.length_pos_iff.mpr w0
  have p2 := List.length_pos_iff.mpr w0'
  have p3 := List.length_pos_iff.mpr hg
  have lw : w.length = 1 := by (first | lia | omega)
  obtain ⟨c, rfl⟩ := List.length_eq_one_iff.mp lw
  rw [co_last (h.mono.resolve_left hg), co_last (k.mono.resolve_left hg')] at c1
  have hc : c = 1 := by
    have : (1 : Rat) = c * 1 := c1
    grind
  refine (row_eq (fun x => ?_) k.trimmed h.trimmed).symm
  rw [e x, hc]
  show (1 + x * 0) * _ = _; grind
theorem rem_nil {a q g r : List Rat} (h : ∀ x, ev a x = ev q x * ev g x + ev r x) (hd : ∃ u, ∀ x, ev a x = ev u x * ev g x) (hr : Trimmed r) (hg : Trimmed g) (hl : r.length < g.length) : r = [] := by
  obtain ⟨u, hu⟩ := hd
  have e : ∀ x, ev r x = ev (trim (addRaw u (q.map fun z => -z))) x * ev g x := fun x => by
    rw [ev_trim, ev_addRaw, ev_neg]
    have := h x
    rw [hu x] at this
    grind
  by_cases hw : trim (addRaw u (q.map fun z => -z)) = []
  · exact zero_row hr fun x => by rw [e x, hw]; show 0 * _ = (0 : Rat); grind
  · have hg0 : g ≠ [] := fun q => by rw [q] at hl; cases hl
    have := (prod_len e hr (trim_trimmed _) hg hw hg0).1
    have := List.length_pos_iff.mpr hw
    (first | lia | omega)
structure MonOf (p m : List Rat) : Prop where
  mono : m = [] ∨ m.getLast? = some 1
  tr : Trimmed m
  len : m.length = p.length
  up : ∃ c, ∀ x, ev p x = c * ev m x
  dn : ∃ c, ∀ x, ev m x = c * ev p x
theorem mon_of {p : List Rat} (h : Trimmed p) : MonOf p (mon p) := by
  unfold mon
  cases e : p.getLast? with
  | none =>
    have e' : p = [] := List.getLast?_eq_none_iff.mp e
    subst e'
    exact ⟨.inl rfl, trimmed_nil, rfl, ⟨0, fun x => by show (0 : Rat) = 0 * 0; grind⟩, ⟨0, fun x => by show (0 : Rat) = 0 * 0; grind⟩⟩
  | some c =>
    have hc : c ≠ 0 := fun q => h (by rw [e, q])
    have hci : c⁻¹ ≠ 0 := fun q => by have := Rat.mul_inv_cancel c hc; rw [q] at this; grind
    have hl : (scl p c⁻¹).getLast? = some 1 := by
      unfold scl
      rw [if_neg hci, List.getLast?_map, e]
      show some (c * c⁻¹) = some 1
      rw [Rat.mul_inv_cancel _ hc]
    refine ⟨.inr hl, ?_, ?_, ⟨c, fun x => ?_⟩, ⟨c⁻¹, fun x => ?_⟩⟩
    · unfold Trimmed; rw [hl]; decide
    · show (scl p c⁻¹).length = _
      unfold scl; rw [if_neg hci, List.length_map]
    · show ev p x = c * ev (scl p c⁻¹) x
      rw [ev_scl]
      have := Rat.mul_inv_cancel _ hc
      grind
    · show ev (scl p c⁻¹) x = c⁻¹ * ev p x
      rw [ev_scl]; grind
theorem mon_bits {p : List Rat} {n : Nat} (hp : ∀ q ∈ p, Hb n q) (h : Trimmed p) : ∀ q ∈ mon p, Hb (n + n) q := by
  unfold mon
  cases e : p.getLast? with
  | none => intro q hq; cases hq
  | some c =>
    have hc : c ≠ 0 := fun q => h (by rw [e, q])
    exact scl_bits hp ((hp c (last_mem e)).inv hc)
structure Span (a b r0 r1 : List Rat) : Prop where
  c0 : ∃ s t, ∀ x, ev r0 x = ev s x * ev a x + ev t x * ev b x
  c1 : ∃ s t, ∀ x, ev r1 x = ev s x * ev a x + ev t x * ev b x
  da : ∃ u w, ∀ x, ev a x = ev u x * ev r0 x + ev w x * ev r1 x
  db : ∃ u w, ∀ x, ev b x = ev u x * ev r0 x + ev w x * ev r1 x
theorem Span.init (a b : List Rat) : Span a b a b := by
  have h1 : ∀ x, ev [1] x = 1 := fun x => by show 1 + x * 0 = (1 : Rat); grind
  have h0 : ∀ x, ev [] x = 0 := fun x => rfl
  exact ⟨⟨[1], [], fun x => by rw [h1, h0]; grind⟩, ⟨[], [1], fun x => by rw [h1, h0]; grind⟩, ⟨[1], [], fun x => by rw [h1, h0]; grind⟩, ⟨[], [1], fun x => by rw [h1, h0]; grind⟩⟩
theorem Span.step {a b r0 r1 q r2 m : List Rat} (h : Span a b r0 r1) (e : ∀ x, ev r0 x = ev q x * ev r1 x + ev r2 x) (hu : ∃ c, ∀ x, ev r2 x = c * ev m x) (hd : ∃ c, ∀ x, ev m x = c * ev r2 x) : Span a b r1 m := by
  obtain ⟨⟨s0, t0, h0⟩, ⟨s1, t1, h1⟩, ⟨u, w, ha⟩, ⟨u', w', hb⟩⟩ := h
  obtain ⟨c, hc⟩ := hu
  obtain ⟨d, hd⟩ := hd
  have k : ∀ (c x : Rat), ev [c] x = c := fun c x => by show c + x * 0 = c; grind
  refine ⟨⟨s1, t1, h1⟩, ⟨pm [d] (addRaw s0 ((pm q s1).map fun z => -z)), pm [d] (addRaw t0 ((pm q t1).map fun z => -z)), fun x => ?_⟩, ⟨addRaw (pm u q) w, pm [c] u, fun x => ?_⟩, ⟨addRaw (pm u' q) w', pm [c] u', fun x => ?_⟩⟩
  · rw [ev_pm, ev_pm, ev_addRaw, ev_addRaw, ev_neg, ev_neg, ev_pm, ev_pm, k, hd x]
    have e1 := e x
    have e2 := h0 x
    have e3 := h1 x
    have : ev r2 x = (ev s0 x - ev q x * ev s1 x) * ev a x + (ev t0 x - ev q x * ev t1 x) * ev b x := by
      rw [h1 x, h0 x] at e1; grind
    rw [this]; grind
  · rw [ev_addRaw, ev_pm, ev_pm, k, ha x, e x, hc x]; grind
  · rw [ev_addRaw, ev_pm, ev_pm, k, hb x, e x, hc x]; grind
theorem Span.gcd {a b r m : List Rat} (h : Span a b r []) (hm : MonOf r m) : GcdOf a b m := by
  obtain ⟨⟨s0, t0, h0⟩, _, ⟨u, w, ha⟩, ⟨u', w', hb⟩⟩ := h
  obtain ⟨c, hc⟩ := hm.up
  obtain ⟨d, hd⟩ := hm.dn
  have k : ∀ (c x : Rat), ev [c] x = c := fun c x => by show c + x * 0 = c; grind
  refine ⟨hm.mono, ⟨pm [c] u, fun x => ?_⟩, ⟨pm [c] u', fun x => ?_⟩, ⟨pm [d] s0, pm [d] t0, fun x => ?_⟩⟩
  · rw [ev_pm, k, ha x, hc x]; show _ + _ * 0 = _; grind
  · rw [ev_pm, k, hb x, hc x]; show _ + _ * 0 = _; grind
  · rw [ev_pm, ev_pm, k, hd x, h0 x]; grind

theorem pairSnd {w : World} {A : Around} {E : Value → Shared → Prop} {s : Shared} {v0 v : View} {h0 : Heap} {L : Addr} {m : Str → Option Value} {mu : List (Addr × Obj)} {value slice : Expr} {a : Addr} {x y : Value} {n : Nat} {u : Tok} {Q : Value → Shared → Prop} (S : St v0 h0 v L s.heap m mu)
    (ha : v a = some { cls := .type "tuple", data := .seq [x, y].toArray n }) (h : Q y s)
    (hs : ∀ a, subscripted slice false (.ref a) (.int 1 u) = operate [.ref a, .int 1 u] (getItem (.ref a) (.int 1 u)) := by intro _; with_unfolding_all rfl) :
    wpAny (model PG w) A (subscriptTail value slice (.ref a) (.int 1 u)) Q E s :=
  item_tupleT (isTup_of (S.gr.le _ _ ha)) (by decide) (by decide) (j := 1) rfl rfl h (hs a)
theorem qgcd_ok {w : World} {v : View} {x y : Value} {a b : List Rat} (hx : PolyAt v x a) (hy : PolyAt v y b) (ha : a.length ≤ 4) (hb : b.length ≤ 4) (hna : ∀ q ∈ a, Hb 16 q) (hnb : ∀ q ∈ b, Hb 16 q) (hta : Trimmed a) (htb : Trimmed b) :
    Spec w 149 7 [x, y] v (fun v' z => ∃ g, PolyAt v' z g ∧ GcdOf a b g) := by
  intro A E s Q hA hG hv hB' kk
  refine enter hA hG hv (by rfl) (by kernel_rfl!) (BindsTo.of_eq rfl) (locs rfl) ?_
  intro L h₁ tk env A' S hA'
  (try dsimp only)
  have c16 : ∀ l, l ≤ 4 → 16 ≤ cb l := fun l hl => Nat.pow_le_pow_right (n := 2) (i := 4) (by (first | lia | omega)) (by (first | lia | omega))
  refine wpAny_execs_cons ?_
  refine whileS (fun k v m mu => ∃ r0 r1 x0 x1, k = r1.length ∧ m (Str.ofString "a") = some x0 ∧ PolyAt v x0 r0 ∧ m (Str.ofString "b") = some x1 ∧ PolyAt v x1 r1 ∧ mu = [] ∧ r0.length ≤ 4 ∧ r1.length ≤ 4 ∧ Trimmed r0 ∧ Trimmed r1 ∧ Span a b r0 r1 ∧
      (∀ q ∈ r0, Hb (cb (max r0.length r1.length)) q) ∧ (∀ q ∈ r1, Hb (cb r1.length) q))
    S _ (ex4i a b x y ⟨rfl, rfl, hx, rfl, hy, rfl, ha, hb, hta, htb, Span.init a b, bits_mono hna (c16 _ (by (first | lia | omega))), bits_mono hnb (c16 _ hb)⟩) ?_
  rintro k v1 m1 mu1 h tk hs1 hJ S3 TT hT
  refine ex4 hJ fun r0 r1 x0 x1 hK => ?_
  clear hJ
  refine and13 hK fun hk hm0 hp0 hm1 hp1 hmu hl0 hl1 ht0 ht1 hsp hb0 hb1 => ?_
  clear hK
  subst hmu
  repeat' walk1
  · rename (0 < (r1.length : Int)) => hpos
    have hne : r1 ≠ [] := List.length_pos_iff.mp (by (first | lia | omega))
    obtain ⟨f1, -, f3⟩ := cb_fin ⟨r0.length, by (first | lia | omega)⟩ ⟨r1.length, by (first | lia | omega)⟩ (by show 1 ≤ r1.length; (first | lia | omega))
    have f2 := fun n2 h => cb_fin2 ⟨r0.length, by (first | lia | omega)⟩ ⟨r1.length, by (first | lia | omega)⟩ ⟨n2, h⟩
    dsimp only at f1 f2 f3
    have g1 := cb_pos (max r0.length r1.length)
    have g2 := cb_pos r1.length
    have g3 : itB (cb (max r0.length r1.length)) (cb r1.length) (r0.length + 1 - r1.length) + itB (cb (max r0.length r1.length)) (cb r1.length) (r0.length + 1 - r1.length) ≤ 134217728 := by (first | lia | omega)
    repeat' walk1
    rename (∃ q r, _) => ho
    refine byP fun PP hPP => ?_
    obtain ⟨q, r, ⟨ad, xq, xr, n, rfl, had, hq, hr⟩, hd⟩ := ho
    refine hPP ?_
    clear hPP
    refine pairSnd (by assumption) (by assumption) ?_
    have htr := hd.tr
    have hbr := hd.br
    have hlr : r.length ≤ 1000000 := by have := hd.lr; (first | lia | omega)
    repeat' walk1
    rename PolyAt _ _ (mon r) => hpm
    have hm := mon_of htr
    refine hT _ _ (turnEnd (by assumption) (by walk_at "m.sub") ⟨_, ?_, ex4i r1 (mon r) _ _ ⟨rfl, by walk_at "m.map", by walk_at "m.poly", by walk_at "m.map", by walk_at "m.poly", rfl, hl1, ?_, ht1, hm.tr, hsp.step hd.ev hm.up hm.dn, bits_mono hb1 ?_, ?_⟩⟩)
    · rw [hm.len, hk]; exact hd.lr
    · have := hd.lr; rw [hm.len]; (first | lia | omega)
    · rw [hm.len, Nat.max_eq_left (Nat.le_of_lt hd.lr)]; exact Nat.le_refl _
    · intro z hz
      have hz' := mon_bits hbr htr z hz
      have hpz : 1 ≤ r.length := by rw [← hm.len]; exact List.length_pos_iff.mpr fun e => by rw [e] at hz; cases hz
      have := f2 r.length (by have := hd.lr; (first | lia | omega)) hd.lr hpz
      rw [hm.len]
      exact hz'.mono (by (first | lia | omega))
  · rename (¬ 0 < (r1.length : Int)) => hpos
    have hne : r1 = [] := List.eq_nil_of_length_eq_zero (by (first | lia | omega))
    subst hne
    have hcl := cb_le (max r0.length 0)
    have hs0 : r0.length ≤ 1000000 := by (first | lia | omega)
    have hb0' : ∀ q ∈ r0, Hb (cb (max r0.length 0)) q := hb0
    have hc2 : cb (max r0.length 0) + cb (max r0.length 0) ≤ 134217728 := by (first | lia | omega)
    repeat' walk1
    exact kk _ _ _ _ (St.gr (by assumption)) ⟨mon r0, by assumption, hsp.gcd (mon_of ht0)⟩

theorem mulRow_bits {c : Rat} {na nb M : Nat} (hc : Hb na c) : ∀ (b f : List Rat) (off : Nat), (∀ q ∈ b, Hb nb q) → off + b.length ≤ f.length → (∀ k, off ≤ k → Hb M (co f k)) → (∀ k, Hb (M + (na + nb + 1)) (co f k)) → ∀ k, Hb (M + (na + nb + 1)) (co (mulRow f off c b) k)
  | [], f, off, hb, hl, h1, h2, k => h2 k
  | q :: b, f, off, hb, hl, h1, h2, k => by
    rw [List.length_cons] at hl
    have hg : ∀ j, co (addAt f off (c * q)) j = if j = off then co f off + c * q else co f j := fun j => addAt_get f off j _ (by (first | lia | omega))
    refine mulRow_bits hc b (addAt f off (c * q)) (off + 1) (fun z hz => hb z (.tail _ hz)) (by rw [addAt_length]; (first | lia | omega)) (fun j hj => ?_) (fun j => ?_) k
    · rw [hg, if_neg (by (first | lia | omega))]; exact h1 j (by (first | lia | omega))
    · rw [hg]
      split
      · exact ((h1 off (Nat.le_refl _)).add (hc.mul (hb q (.head _)))).mono (by (first | lia | omega))
      · exact h2 j
theorem mulAll_bits {na nb : Nat} {b : List Rat} (hb : ∀ q ∈ b, Hb nb q) : ∀ (a f : List Rat) (off M : Nat), (∀ q ∈ a, Hb na q) → off + a.length + b.length ≤ f.length + 1 → (∀ k, Hb M (co f k)) → ∀ k, Hb (M + a.length * (na + nb + 1)) (co (mulAll f off b a) k)
  | [], f, off, M, ha, hl, h, k => (h k).mono (by simp)
  | c :: a, f, off, M, ha, hl, h, k => by
    rw [List.length_cons] at hl
    have := mulAll_bits hb a (mulRow f off c b) (off + 1) (M + (na + nb + 1)) (fun z hz => ha z (.tail _ hz)) (by rw [mulRow_length]; (first | lia | omega)) (fun k => mulRow_bits (ha c (.head _)) b f off hb (by (first | lia | omega)) (fun j _ => h j) (fun j => (h j).mono (by (first | lia | omega))) k) k
    refine this.mono ?_
    rw [List.length_cons, Nat.add_mul]; (first | lia | omega)
def mulP (a b : List Rat) : List Rat := if a = [] ∨ b = [] then [] else mulAll (List.replicate (a.length + b.length - 1) 0) 0 b a
theorem ev_mulP (a b : List Rat) (x : Rat) : ev (mulP a b) x = ev a x * ev b x := by
  unfold mulP
  split
  · rename_i h
    rcases h with h | h
    · rw [h]; show (0 : Rat) = 0 * _; grind
    · rw [h]; show (0 : Rat) = _ * 0; grind
  · rename_i h
    have h1 := List.length_pos_iff.mpr fun e => h (.inl e)
    have h2 := List.length_pos_iff.mpr fun e => h (.inr e)
    rw [ev_mulAll _ _ _ _ _ (by rw [List.length_replicate]; (first | lia | omega)), ev_replicate, Rat.pow_zero]; grind
theorem mulP_length (a b : List Rat) : (mulP a b).length = if a.length = 0 ∨ b.length = 0 then 0 else a.length + b.length - 1 := by
  unfold mulP
  by_cases h : a = [] ∨ b = []
  · rw [if_pos h, if_pos (by rcases h with h | h <;> simp [h])]; rfl
  · rw [if_neg h, if_neg (by simpa [List.length_eq_zero_iff] using h), mulAll_length, List.length_replicate]
theorem bits_of_co {p : List Rat} {n : Nat} (h : ∀ k, Hb n (co p k)) : ∀ q ∈ p, Hb n q := fun q hq => by
  obtain ⟨i, hi⟩ := List.mem_iff_getElem?.mp hq
  have := h i
  unfold co at this
  rw [hi] at this; exact this
theorem mulP_bits {a b : List Rat} {na nb : Nat} (ha : ∀ q ∈ a, Hb na q) (hb : ∀ q ∈ b, Hb nb q) : ∀ q ∈ mulP a b, Hb (1 + a.length * (na + nb + 1)) q := by
  unfold mulP
  split
  · intro q hq; cases hq
  · rename_i h
    have h1 := List.length_pos_iff.mpr fun e => h (.inl e)
    have h2 := List.length_pos_iff.mpr fun e => h (.inr e)
    refine bits_of_co fun k => mulAll_bits hb a _ 0 1 ha (by rw [List.length_replicate]; (first | lia | omega)) (fun k => ?_) k
    unfold co
    rw [List.getElem?_replicate]
    split <;> exact Hb.zero (Nat.le_refl _)

def TupAt (v : View) (z : Value) (xs : List Value) : Prop := ∃ a n, z = .ref a ∧ v a = some { cls := .type "tuple", data := .seq xs.toArray n }
theorem TupAt.mono {v v' : View} {z : Value} {xs : List Value} (h : TupAt v z xs) (s : Sub v v') : TupAt v' z xs := let ⟨a, n, e, h⟩ := h; ⟨a, n, e, s _ _ h⟩
theorem TupAt.of {v : View} {a : Addr} {xs : List Value} (h : v a = some (tupO xs)) : TupAt v (.ref a) xs := ⟨a, 0, rfl, h⟩
theorem tupItem {w : World} {A : Around} {E : Value → Shared → Prop} {s : Shared} {v0 v : View} {h0 : Heap} {L : Addr} {m : Str → Option Value} {mu : List (Addr × Obj)} {value slice : Expr} {z : Value} {xs : List Value} {y : Value} {k : Int} {u : Tok} {Q : Value → Shared → Prop} (S : St v0 h0 v L s.heap m mu)
    {j : Nat} (hz : TupAt v z xs) (hk : seqIndex? k xs.length = some j) (hj : xs[j]? = some y) (h : Q y s)
    (hj3 : -(2 ^ 63) ≤ k ∧ k < 2 ^ 63 := by decide) (hs : ∀ a, subscripted slice false (.ref a) (.int k u) = operate [.ref a, .int k u] (getItem (.ref a) (.int k u)) := by intro _; with_unfolding_all rfl) :
    wpAny (model PG w) A (subscriptTail value slice z (.int k u)) Q E s := by
  obtain ⟨a, n, rfl, ha⟩ := hz
  exact item_tupleT (isTup_of (S.gr.le _ _ ha)) hj3.1 hj3.2 (j := j) hk hj h (hs a)
local macro_rules | `(tactic| walk_at "m.tup") => `(tactic| first | with_reducible assumption | exact TupAt.mono (by with_reducible assumption) (by walk_at "m.sub"))
local macro_rules | `(tactic| walk_at "subscriptTail Name Constant") => `(tactic| refine tupItem ‹_› (by walk_at "m.tup") (by rfl) (by rfl) ?_)

local macro_rules | `(tactic| walk_at "subscriptTail Subscript UnaryOp") => `(tactic| (refine polyLast ‹_› (by walk_at "m.poly") (by with_reducible assumption) ?_; intro _ _; (try dsimp only)))
structure CoLen (l n0 n1 k0 k1 : Nat) : Prop where
  j : k0 ≤ l + 1 - n1
  j' : k1 = 0 ∨ (n0 ≤ l ∧ k1 + n0 ≤ l + 1)
  kk : k0 ≤ max 1 (l + 1 - n0)
  d : n1 < n0 ∨ k1 ≤ 1
theorem CoLen.step {l n0 n1 n2 k0 k1 k2 lq : Nat} (h : CoLen l n0 n1 k0 k1) (h2 : n2 < n1) (h20 : n2 ≤ n0) (hq : lq ≤ n0 + 1 - n1) (hk : k2 ≤ max k0 (if lq = 0 ∨ k1 = 0 then 0 else lq + k1 - 1)) : CoLen l n1 n2 k1 k2 := by
  refine byP fun PP hPP => ?_
  obtain ⟨j, j', kk, d⟩ := h
  refine hPP ?_
  clear hPP
  refine ⟨?_, ?_, ?_, .inl h2⟩
  · rcases j' with rfl | ⟨_, b⟩
    · exact Nat.zero_le _
    · exact Nat.le_sub_of_add_le (Nat.le_trans (Nat.add_le_add_left h20 _) b)
  · have hX : (if lq = 0 ∨ k1 = 0 then 0 else lq + k1 - 1) ≤ l + 1 - n1 := by
      split
      · exact Nat.zero_le _
      · rename_i hn
        obtain ⟨_, b⟩ := j'.resolve_left fun e => hn (.inr e)
        have hl := Nat.pos_of_ne_zero fun e => hn (.inl e)
        exact ar11 hq b hl
    have hk2 : k2 ≤ l + 1 - n1 := Nat.le_trans hk (Nat.max_le.mpr ⟨j, hX⟩)
    clear hX hk hq h20 h2 d kk j j'
    (first | lia | omega)
  · rcases d with d | d
    · rcases j' with rfl | ⟨_, b⟩
      · exact Nat.zero_le _
      · exact Nat.le_trans (Nat.le_sub_of_add_le (Nat.le_trans (Nat.add_le_add_left (Nat.le_of_lt d) _) b)) (Nat.le_max_right ..)
    · exact Nat.le_trans d (Nat.le_max_left ..)
structure ExtOf (a b g s t : List Rat) : Prop where
  gcd : GcdOf a b g
  ev : ∀ x, ev s x * ev a x + ev t x * ev b x = ev g x
  ls : s.length ≤ max 1 (b.length + 1 - g.length)
  lt : t.length ≤ max 1 (a.length + 1 - g.length)
  bg : ∀ q ∈ g, Hb 32768 q
  bs : ∀ q ∈ s, Hb 1048576 q
  bt : ∀ q ∈ t, Hb 1048576 q
  lg : g.length ≤ 4
  nil : g = [] → s = [] ∧ t = []
def TriAt (v : View) (z : Value) (r s t : List Rat) : Prop := ∃ x y u, TupAt v z [x, y, u] ∧ PolyAt v x r ∧ PolyAt v y s ∧ PolyAt v u t
theorem TriAt.of {v : View} {z x y u : Value} {r s t : List Rat} (h : TupAt v z [x, y, u]) (h1 : PolyAt v x r) (h2 : PolyAt v y s) (h3 : PolyAt v u t) : TriAt v z r s t := ⟨x, y, u, h, h1, h2, h3⟩
theorem qextended_ok {w : World} {v : View} {x y : Value} {a b : List Rat} (hx : PolyAt v x a) (hy : PolyAt v y b) (ha : a.length ≤ 4) (hb : b.length ≤ 4) (hna : ∀ q ∈ a, Hb 16 q) (hnb : ∀ q ∈ b, Hb 16 q) (hta : Trimmed a) (htb : Trimmed b) :
    Spec w 156 7 [x, y] v (fun v' z => ∃ g s t, TriAt v' z g s t ∧ ExtOf a b g s t) := by
  intro A E s Q hA hG hv hB' kk
  refine enter hA hG hv (by rfl) (by kernel_rfl!) (BindsTo.of_eq rfl) (locs rfl) ?_
  intro L h₁ tk env A' S hA'
  (try dsimp only)
  have c16 : ∀ l, l ≤ 4 → 16 ≤ cb l := fun l hl => Nat.pow_le_pow_right (n := 2) (i := 4) (by (first | lia | omega)) (by (first | lia | omega))
  repeat' walk1
  rename St _ _ _ _ _ _ _ => S2
  have k1 : ∀ x : Rat, ev [1] x = 1 := fun x => by show 1 + x * 0 = (1 : Rat); grind
  have k0 : ∀ x : Rat, ev [] x = 0 := fun x => rfl
  have hb1' : ∀ q ∈ [(1 : Rat)], Hb 16 q := fun q hq => by rw [List.mem_singleton.mp hq]; exact ⟨by decide, by decide⟩
  refine whileS (fun k v m mu => ∃ r0 s0 t0 r1 s1 t1 z0 z1, k = r1.length ∧ m (Str.ofString "one") = some z0 ∧ TriAt v z0 r0 s0 t0 ∧ m (Str.ofString "other") = some z1 ∧ TriAt v z1 r1 s1 t1 ∧ mu = [] ∧ r0.length ≤ 4 ∧ r1.length ≤ 4 ∧ Trimmed r0 ∧ Trimmed r1 ∧ Span a b r0 r1 ∧
      (∀ x, ev s0 x * ev a x + ev t0 x * ev b x = ev r0 x) ∧ (∀ x, ev s1 x * ev a x + ev t1 x * ev b x = ev r1 x) ∧ CoLen b.length r0.length r1.length s0.length s1.length ∧ CoLen a.length r0.length r1.length t0.length t1.length ∧
      (∀ q ∈ r0, Hb (cb (max r0.length r1.length)) q) ∧ (∀ q ∈ s0, Hb (cb (max r0.length r1.length)) q) ∧ (∀ q ∈ t0, Hb (cb (max r0.length r1.length)) q) ∧ (r1.length ≠ 0 → (∀ q ∈ r1, Hb (cb r1.length) q) ∧ (∀ q ∈ s1, Hb (cb r1.length) q) ∧ (∀ q ∈ t1, Hb (cb r1.length) q)))
    S2 _ (ex8i a [1] [] b [] [1] _ _ ⟨rfl, rfl, ?_, rfl, ?_, rfl, ha, hb, hta, htb, Span.init a b, fun x => by rw [k1, k0]; grind, fun x => by rw [k1, k0]; grind, ⟨by show 1 ≤ _; (first | lia | omega), .inl rfl, by show 1 ≤ _; (first | lia | omega), .inr (Nat.zero_le _)⟩, ⟨Nat.zero_le _, .inr ⟨Nat.le_refl _, by show 1 + _ ≤ _; (first | lia | omega)⟩, Nat.zero_le _, .inr (Nat.le_refl _)⟩,
      bits_mono hna (c16 _ (by (first | lia | omega))), bits_mono hb1' (c16 _ (by (first | lia | omega))), fun q hq => (nomatch hq), fun _ => ⟨bits_mono hnb (c16 _ hb), fun q hq => (nomatch hq), bits_mono hb1' (c16 _ hb)⟩⟩) ?_
  · refine TriAt.of (TupAt.mono (TupAt.of (by assumption)) (by walk_at "m.sub")) ?_ ?_ ?_
    · walk_at "m.poly"
    · exact PolyAt.mono (PolyAt.of (by assumption) (Vals.one (by walk_at "m.rat"))) (by walk_at "m.sub")
    · walk_at "m.poly"
  · refine TriAt.of (TupAt.mono (TupAt.of (by assumption)) (by walk_at "m.sub")) ?_ ?_ ?_
    · walk_at "m.poly"
    · walk_at "m.poly"
    · exact PolyAt.mono (PolyAt.of (by assumption) (Vals.one (by walk_at "m.rat"))) (by walk_at "m.sub")
  rintro k v1 m1 mu1 h tk hs1 hJ S3 TT hT
  refine ex8 hJ fun r0 s0 t0 r1 s1 t1 z0 z1 hK => ?_
  clear hJ
  refine and19 hK fun hk hm0 hQ0 hm1 hQ1 hmu hl0 hl1 htr0 htr1 hsp he0 he1 hcs hct hb0 hbs0 hbt0 hbb1 => ?_
  clear hK
  subst hmu
  refine byP fun PP hPP => ?_
  obtain ⟨x0, y0, u0, hT0, hr0, hs0, ht0⟩ := hQ0
  refine hPP ?_
  clear hPP
  refine byP fun PP hPP => ?_
  obtain ⟨x1, y1, u1, hT1, hr1, hs1', ht1⟩ := hQ1
  refine hPP ?_
  clear hPP
  iterate 16 (any_goals walk1)
  · rename (0 < (r1.length : Int)) => hpos
    have hp1 : 1 ≤ r1.length := by (first | lia | omega)
    have hne : r1 ≠ [] := List.length_pos_iff.mp (by (first | lia | omega))
    refine byP fun PP hPP => ?_
    obtain ⟨hbr1, hbs1, hbt1⟩ := hbb1 (by (first | lia | omega))
    refine hPP ?_
    clear hPP
    obtain ⟨f1, f4, f3⟩ := cb_fin ⟨r0.length, by (first | lia | omega)⟩ ⟨r1.length, by (first | lia | omega)⟩ hp1
    dsimp only at f1 f4 f3
    have g1 := cb_pos (max r0.length r1.length)
    have g2 := cb_pos r1.length
    have q1 := hcs.j
    have q2 := hcs.j'
    have q3 := hct.j
    have q4 := hct.j'
    have la0 : s0.length ≤ 1000 := by (first | lia | omega)
    have la1 : s1.length ≤ 100 := by (first | lia | omega)
    have la2 : t0.length ≤ 1000 := by (first | lia | omega)
    have la3 : t1.length ≤ 100 := by (first | lia | omega)
    repeat' walk1
    rename (∃ q r, _) => ho
    refine byP fun PP hPP => ?_
    obtain ⟨q, r2, ⟨ad, xq, xr, n, rfl, had, hq, hr2⟩, hd⟩ := ho
    refine hPP ?_
    clear hPP
    have hdl := hd.lq
    have hdr := hd.lr
    have hda := hd.la
    have hbq := hd.bq
    have lq100 : q.length ≤ 100 := by (first | lia | omega)
    have fP : 1 + q.length * (itB (cb (max r0.length r1.length)) (cb r1.length) (r0.length - r1.length) + cb r1.length + cb r1.length + 1) ≤ 67108864 := by
      by_cases hz : q.length = 0
      · rw [hz]; (first | lia | omega)
      · exact cb_fin3 ⟨r0.length, by (first | lia | omega)⟩ ⟨r1.length, by (first | lia | omega)⟩ ⟨q.length, by (first | lia | omega)⟩ hp1 ((ar12 hdl).resolve_right hz)
    have fP2 := fun n2 h => cb_fin4 ⟨r0.length, by (first | lia | omega)⟩ ⟨r1.length, by (first | lia | omega)⟩ ⟨q.length, by (first | lia | omega)⟩ ⟨n2, h⟩ (ar12 hdl)
    dsimp only at fP2
    have bp1 := mulP_bits hbq hbs1
    have bp2 := mulP_bits hbq hbt1
    have bq1 : ∀ z ∈ (if q = [] ∨ s1 = [] then [] else mulAll (List.replicate (q.length + s1.length - 1) 0) 0 s1 q), Hb 67108864 z := bits_mono bp1 fP
    have bq2 : ∀ z ∈ (if q = [] ∨ t1 = [] then [] else mulAll (List.replicate (q.length + t1.length - 1) 0) 0 t1 q), Hb 67108864 z := bits_mono bp2 fP
    have ml1 := mulP_length q s1
    have ml2 := mulP_length q t1
    have mq1 : (if q = [] ∨ s1 = [] then [] else mulAll (List.replicate (q.length + s1.length - 1) 0) 0 s1 q).length ≤ 1000 := by show (mulP q s1).length ≤ _; rw [ml1]; split <;> (first | lia | omega)
    have mq2 : (if q = [] ∨ t1 = [] then [] else mulAll (List.replicate (q.length + t1.length - 1) 0) 0 t1 q).length ≤ 1000 := by show (mulP q t1).length ≤ _; rw [ml2]; split <;> (first | lia | omega)
    have hbs0' : ∀ z ∈ s0, Hb 67108864 z := bits_mono hbs0 (by (first | lia | omega))
    have hbt0' : ∀ z ∈ t0, Hb 67108864 z := bits_mono hbt0 (by (first | lia | omega))
    refine asT (by assumption) (Am.hd (by assumption)) had (by rfl) (by rfl) fun h9 S9 => ?_
    repeat' walk1
    have hs2l : (trim (addRaw s0 ((mulP q s1).map fun z => -z))).length ≤ max s0.length (if q.length = 0 ∨ s1.length = 0 then 0 else q.length + s1.length - 1) := by
      have := trim_length (addRaw s0 ((mulP q s1).map fun z => -z))
      rw [addRaw_length, List.length_map, ml1] at this; exact this
    have ht2l : (trim (addRaw t0 ((mulP q t1).map fun z => -z))).length ≤ max t0.length (if q.length = 0 ∨ t1.length = 0 then 0 else q.length + t1.length - 1) := by
      have := trim_length (addRaw t0 ((mulP q t1).map fun z => -z))
      rw [addRaw_length, List.length_map, ml2] at this; exact this
    have hdv := hd.ev
    refine hT _ _ (turnEnd (by assumption) (by walk_at "m.sub") ⟨_, Nat.lt_of_lt_of_eq hdr hk.symm, ex8i r1 s1 t1 r2 (trim (addRaw s0 ((mulP q s1).map fun z => -z))) (trim (addRaw t0 ((mulP q t1).map fun z => -z))) _ _ ⟨rfl, by walk_at "m.map", TriAt.of (by walk_at "m.tup") (by walk_at "m.poly") (by walk_at "m.poly") (by walk_at "m.poly"), by walk_at "m.map", ?_, rfl, hl1, by (first | lia | omega), htr1, hd.tr,
      hsp.step hd.ev ⟨1, fun x => by grind⟩ ⟨1, fun x => by grind⟩, he1, fun x => ?_, hcs.step hdr hda hdl hs2l, hct.step hdr hda hdl ht2l, ?_, ?_, ?_, fun hne2 => ⟨?_, ?_, ?_⟩⟩⟩)
    · refine TriAt.of (TupAt.mono (TupAt.of (by assumption)) (by walk_at "m.sub")) (by walk_at "m.poly") ?_ ?_
      · exact PolyAt.mono (p := trim (addRaw s0 ((mulP q s1).map fun z => -z))) (by assumption) (by walk_at "m.sub")
      · exact PolyAt.mono (p := trim (addRaw t0 ((mulP q t1).map fun z => -z))) (by assumption) (by walk_at "m.sub")
    · rw [ev_trim, ev_trim, ev_addRaw, ev_addRaw, ev_neg, ev_neg, ev_mulP, ev_mulP]
      have e1 := he0 x
      have e2 := he1 x
      have e3 := hdv x
      have : ev r2 x = ev r0 x - ev q x * ev r1 x := by grind
      rw [this, ← e1, ← e2]; grind
    · rw [Nat.max_eq_left (by (first | lia | omega))]; exact hbr1
    · rw [Nat.max_eq_left (by (first | lia | omega))]; exact hbs1
    · rw [Nat.max_eq_left (by (first | lia | omega))]; exact hbt1
    · have := cb_fin2 ⟨r0.length, by (first | lia | omega)⟩ ⟨r1.length, by (first | lia | omega)⟩ ⟨r2.length, by (first | lia | omega)⟩ hdr (by show 1 ≤ r2.length; (first | lia | omega))
      dsimp only at this
      exact bits_mono hd.br (by (first | lia | omega))
    · exact bits_mono (trim_bits (addRaw_bits (bits_mono hbs0 f3) (neg_bits bp1) g2 (by (first | lia | omega)))) (fP2 r2.length (by (first | lia | omega)) hdr (by (first | lia | omega)))
    · exact bits_mono (trim_bits (addRaw_bits (bits_mono hbt0 f3) (neg_bits bp2) g2 (by (first | lia | omega)))) (fP2 r2.length (by (first | lia | omega)) hdr (by (first | lia | omega)))
  · rename (¬ 0 < (r1.length : Int)) => hpos
    have hne : r1 = [] := List.eq_nil_of_length_eq_zero (by (first | lia | omega))
    subst hne
    have hgc := hsp.gcd (mon_of htr0)
    have hmn := mon_of htr0
    by_cases hr00 : r0 = []
    · subst hr00
      repeat' walk1
      refine kk _ _ _ _ (St.gr (by assumption)) ⟨[], [], [], TriAt.of (TupAt.of (by assumption)) (by walk_at "m.poly") (by walk_at "m.poly") (by walk_at "m.poly"), ?_⟩
      exact ⟨hgc, fun x => by show 0 * _ + 0 * _ = (0 : Rat); grind, Nat.zero_le _, Nat.zero_le _, fun q hq => (nomatch hq), fun q hq => (nomatch hq), fun q hq => (nomatch hq), Nat.zero_le _, fun _ => ⟨rfl, rfl⟩⟩
    · have hl0' := List.length_pos_iff.mpr hr00
      obtain ⟨c, hc⟩ := last_some hr00
      have hc0 : c ≠ 0 := fun e => htr0 (by rw [hc, e])
      have em : mon r0 = scl r0 c⁻¹ := by unfold mon; rw [hc]
      have hcl : cb (max r0.length ([] : List Rat).length) ≤ 524288 := by
        show 2 ^ (24 - 5 * (max r0.length 0)) ≤ 2 ^ 19
        exact Nat.pow_le_pow_right (by decide) (ar5 (Nat.le_trans hl0' (Nat.le_max_left ..)))
      have hci := (hb0 c (last_mem hc)).inv hc0
      have lr0 : r0.length ≤ 1000000 := by (first | lia | omega)
      have q1 := hcs.j
      have q3 := hct.j
      have lb1 : ([] : List Rat).length = 0 := rfl
      have la0 : s0.length ≤ 1000000 := by (first | lia | omega)
      have la2 : t0.length ≤ 1000000 := by (first | lia | omega)
      iterate 16 (any_goals walk1)
      · exact absurd ‹(r0.length : Int) = 0› (by (first | lia | omega))
      iterate 15 walk1
      refine polyLast (by assumption) hr0 hc ?_
      intro _ _
      repeat' walk1
      have kc := hcs.kk
      have kt := hct.kk
      have sl1 := scl_length s0 c⁻¹
      have sl2 := scl_length t0 c⁻¹
      refine kk _ _ _ _ (St.gr (by assumption)) ⟨mon r0, scl s0 c⁻¹, scl t0 c⁻¹, TriAt.of (TupAt.of (by assumption)) ?_ ?_ ?_, ?_⟩
      · rw [em]; exact PolyAt.mono (p := scl r0 c⁻¹) (by assumption) (by walk_at "m.sub")
      · exact PolyAt.mono (p := scl s0 c⁻¹) (by assumption) (by walk_at "m.sub")
      · exact PolyAt.mono (p := scl t0 c⁻¹) (by assumption) (by walk_at "m.sub")
      refine ⟨hgc, fun x => ?_, by rw [hmn.len]; (first | lia | omega), by rw [hmn.len]; (first | lia | omega), ?_, bits_mono (scl_bits hbs0 hci) (by (first | lia | omega)), bits_mono (scl_bits hbt0 hci) (by (first | lia | omega)), by rw [hmn.len]; exact hl0, fun e => by have h9 := hmn.len; rw [e, lb1] at h9; (first | lia | omega)⟩
      · have := he0 x
        rw [em, ev_scl, ev_scl, ev_scl, ← this]; grind
      · by_cases h1 : r0.length = 1
        · have hl1 := hmn.len
          rw [h1] at hl1
          obtain ⟨d, hd⟩ := List.length_eq_one_iff.mp hl1
          intro q hq
          rcases hmn.mono with e | e
          · rw [e] at hq; cases hq
          · rw [hd] at hq e
            have : d = 1 := by simpa using e
            rw [List.mem_singleton.mp hq, this]
            exact Hb.mono (n := 1) ⟨by decide, by decide⟩ (by (first | lia | omega))
        · refine bits_mono (mon_bits hb0 htr0) ?_
          have : cb (max r0.length ([] : List Rat).length) ≤ 2 ^ 14 := by
            show 2 ^ (24 - 5 * (max r0.length 0)) ≤ 2 ^ 14
            exact Nat.pow_le_pow_right (by decide) (ar6 (Nat.le_trans (show 2 ≤ r0.length by (first | lia | omega)) (Nat.le_max_left ..)))
          (first | lia | omega)

def kill (h : Heap) (B : Addr) : Heap := h.update B fun o => { o with data := .freed }
theorem kill_ne {h : Heap} {B b : Addr} (hb : b ≠ B) : (kill h B).get? b = h.get? b := Heap.get?_update_ne _ _ _ _ hb
theorem kill_self {h : Heap} {B : Addr} : (kill h B).get? B = none := by
  unfold kill
  cases h
  simp [Heap.update, Heap.get?, Array.getElem?_modify]
  rename_i objs life
  cases q : objs[B]? with
  | none => rfl
  | some o => rfl
theorem kill_sub {h : Heap} {B b : Addr} {o : Obj} (e : (kill h B).get? b = some o) : h.get? b = some o := by
  by_cases q : b = B
  · subst q; rw [kill_self] at e; cases e
  · rw [kill_ne q] at e; exact e
theorem sub_kill {g h : Heap} {B : Addr} (hg : g.get? B = none) (k : ∀ b o, g.get? b = some o → h.get? b = some o) : ∀ b o, g.get? b = some o → (kill h B).get? b = some o := fun b o e => by
  rw [kill_ne (fun q => by rw [q, hg] at e; cases e)]; exact k b o e
structure GrowB (B : Addr) (v0 : View) (h0 : Heap) (v : View) (h : Heap) : Prop where
  ext : ∀ b o, b ≠ B → h0.get? b = some o → h.get? b = some o
  sub : ∀ b o, v0 b = some o → v b = some o
  le : ∀ b o, v b = some o → h.get? b = some o
  hid : ∀ b, v0 b = none → h0.get? b ≠ none → v b = none
section
variable {w : World} {A : Around} {E : Value → Shared → Prop} {s : Shared} {v0 v v' : View} {h0 h h' : Heap} {L B : Addr} {m : Str → Option Value} {mu pre : List (Addr × Obj)} {env : Env} {o o' : Obj}
theorem St.growB (S : St v0 h0 v L h m (pre ++ (B, o) :: mu)) (g : GrowB B v h v' h') (e : h'.get? B = some o') : St v0 h0 v' L h' m (pre ++ (B, o') :: mu) := by
  obtain ⟨q1, q2, q3, q4⟩ := S.mus (B, o) (by simp)
  have nd := S.nd
  rw [List.map_append, List.map_cons] at nd
  have vB : v' B = none := g.hid B q4 (by rw [q1]; exact fun z => nomatch z)
  have one : ∀ p : Addr × Obj, p.1 ≠ B → h.get? p.1 = some p.2 ∧ p.1 ≠ L ∧ h0.get? p.1 = none ∧ v p.1 = none → h'.get? p.1 = some p.2 ∧ p.1 ≠ L ∧ h0.get? p.1 = none ∧ v' p.1 = none := fun p hne ⟨a, b, c, d⟩ =>
    ⟨g.ext _ _ hne a, b, c, g.hid _ d (by rw [a]; exact fun z => nomatch z)⟩
  refine ⟨⟨fun b x q => g.ext b x ?_ (S.gr.ext b x q), fun b x q => g.sub b x (S.gr.sub b x q), g.le, fun b q n => g.hid b (S.gr.hid b q n) ?_⟩, S.ns.at' fun x q => g.ext L x (Ne.symm q2) q, S.newL, ?_, fun p hp => ?_, by rw [List.map_append, List.map_cons]; exact nd⟩
  · intro z; rw [z, q3] at q; cases q
  · cases z : h0.get? b with
    | none => exact absurd z n
    | some x => rw [S.gr.ext b x z]; exact fun z => nomatch z
  · obtain ⟨x, _, _, hx, _⟩ := S.ns
    exact g.hid L S.hidL (by rw [hx]; exact fun z => nomatch z)
  · rcases List.mem_append.mp hp with hp | hp
    · exact one p ((List.nodup_append.mp nd).2.2 _ (List.mem_map_of_mem hp) _ (.head _)) (S.mus p (List.mem_append_left _ hp))
    · rcases List.mem_cons.mp hp with rfl | hp
      · exact ⟨e, q2, q3, vB⟩
      · exact one p (fun z => (List.nodup_cons.mp (List.nodup_append.mp nd).2.1).1 (List.mem_map.mpr ⟨p, hp, z⟩)) (S.mus p (List.mem_append_right _ (.tail _ hp)))
theorem St.take (S : St v h0 v L h m mu) (hb : h0.get? B = some o) (hv : v B = none) : St v (kill h0 B) v L h m (mu ++ [(B, o)]) := by
  refine ⟨⟨fun b x e => S.gr.ext b x (kill_sub e), S.gr.sub, S.gr.le, fun b e _ => e⟩, S.ns, ?_, S.hidL, fun p hp => ?_, ?_⟩
  · cases q : (kill h0 B).get? L with
    | none => rfl
    | some x => have := kill_sub q; rw [S.newL] at this; cases this
  · rcases List.mem_append.mp hp with hp | hp
    · obtain ⟨a, b, c, d⟩ := S.mus p hp
      refine ⟨a, b, ?_, d⟩
      cases q : (kill h0 B).get? p.1 with
      | none => rfl
      | some x => have := kill_sub q; rw [c] at this; cases this
    · rw [List.mem_singleton.mp hp]
      refine ⟨S.gr.ext _ _ hb, fun z => ?_, kill_self, hv⟩
      have := S.newL
      rw [← z] at this
      dsimp only at this
      rw [hb] at this; cases this
  · rw [List.map_append]
    refine List.nodup_append.mpr ⟨S.nd, by simp, fun a ha b hb' e => ?_⟩
    have hb'' : b = B := by simpa using hb'
    obtain ⟨p, hp, rfl⟩ := List.mem_map.mp ha
    have := (S.mus p hp).2.2.1
    rw [e, hb'', hb] at this; cases this
theorem St.give {v0 v' : View} (S : St v0 (kill h0 B) v' L h' m mu) (hm : (B, o') ∈ mu) : GrowB B v0 h0 v' h' ∧ h'.get? B = some o' := by
  obtain ⟨q1, q2, q3, q4⟩ := S.mus _ hm
  refine ⟨⟨fun b x hb e => S.gr.ext b x (by rw [kill_ne hb]; exact e), S.gr.sub, S.gr.le, fun b e n => ?_⟩, q1⟩
  by_cases z : b = B
  · rw [z]; exact q4
  · exact S.gr.hid b e (by rw [kill_ne z]; exact n)
end
def SpecB (w : World) (f : Addr) (n : Nat) (args : List Value) (v : View) (B : Addr) (o : Obj) (O : View → Value → Obj → Prop) : Prop :=
  ∀ (A : Around) (E : Value → Shared → Prop) (s : Shared) (Q : Value → Shared → Prop) (g : Heap), Am A n → Gl w g → g.get? B = none → (∀ b o, g.get? b = some o → s.heap.get? b = some o) → (∀ b o, v b = some o → s.heap.get? b = some o) →
    Base v → s.heap.get? B = some o → v B = none → (∀ r h' v' tk o', GrowB B v s.heap v' h' → h'.get? B = some o' → O v' r o' → Q r { s with heap := h', toks := tk }) → wpAny (model PG w) A (call (.ref f) args) Q E s
theorem callSB {w : World} {A : Around} {E : Value → Shared → Prop} {s : Shared} {v0 v : View} {h0 : Heap} {L B : Addr} {m : Str → Option Value} {mu pre : List (Addr × Obj)} {f : Addr} {n n' : Nat} {args : List Value} {o : Obj} {O : View → Value → Obj → Prop} {Q : Value → Shared → Prop}
    (S : St v0 h0 v L s.heap m (pre ++ (B, o) :: mu)) (G : Gl w h0) (hA : Am A n') (hB : Base v0) (sp : SpecB w f n args v B o O) (hn : n ≤ n')
    (k : ∀ r h' v' tk o', St v0 h0 v' L h' m (pre ++ (B, o') :: mu) → Sub v v' → O v' r o' → Q r { s with heap := h', toks := tk }) : wpAny (model PG w) A (call (.ref f) args) Q E s := by
  obtain ⟨q1, q2, q3, q4⟩ := S.mus (B, o) (by simp)
  exact sp A E s Q h0 (hA.less hn) G q3 S.gr.ext S.gr.le (S.base hB) q1 q4 fun r h' v' tk o' g e k' => k r h' v' tk o' (S.growB g e) g.sub k'

def BoxAt (v : View) (o : Obj) : Prop := ∃ scr xs p sd t u c n, o = lstN [.ref scr, .int p t, .int sd u] c ∧ v scr = some (lstN xs n) ∧ (∀ y ∈ xs, ∃ z t, y = .int z t) ∧ xs.length ≤ 1000 ∧ 0 ≤ p ∧ 0 ≤ sd ∧ sd < 4294967296
theorem BoxAt.of {v : View} {scr : Addr} {xs : List Value} {p sd : Int} {t u : Tok} {c n : Nat} (h1 : v scr = some (lstN xs n)) (h2 : ∀ y ∈ xs, ∃ z t, y = .int z t) (h3 : xs.length ≤ 1000) (h4 : 0 ≤ p) (h5 : 0 ≤ sd) (h6 : sd < 4294967296) : BoxAt v (lstN [.ref scr, .int p t, .int sd u] c) := ⟨scr, xs, p, sd, t, u, c, n, rfl, h1, h2, h3, h4, h5, h6⟩
section
variable {w : World} {A : Around} {E : Value → Shared → Prop} {s : Shared} {v0 v v' : View} {h0 h h' : Heap} {L B : Addr} {m : Str → Option Value} {mu pre : List (Addr × Obj)} {env : Env} {o o' : Obj}
theorem BoxAt.mono (h : BoxAt v o) (s : Sub v v') : BoxAt v' o := let ⟨scr, xs, p, sd, t, u, c, n, e, a, r⟩ := h; ⟨scr, xs, p, sd, t, u, c, n, e, s _ _ a, r⟩
theorem muGet {a : Addr} {value slice : Expr} {xs : List Value} {c : Nat} {k : Int} {u : Tok} {y : Value} {Q : Value → Shared → Prop} (S : St v0 h0 v L s.heap m mu) (hm : (a, lstN xs c) ∈ mu) (h0' : 0 ≤ k) (hk : k < 1000000) (hy : xs[k.toNat]? = some y) (h : Q y s)
    (hss : subscripted slice false (.ref a) (.int k u) = operate [.ref a, .int k u] (getItem (.ref a) (.int k u))) :
    wpAny (model PG w) A (subscriptTail value slice (.ref a) (.int k u)) Q E s := by
  have hl := isLst_of (S.mus _ hm).1
  exact tail_any hl.typeIs slot_list_getitem.lookup (wpAny_getItem_list hl h0' (by (first | lia | omega)) (by simpa using hy) h) hss
theorem lsGet {a : Addr} {value slice : Expr} {xs : List Value} {c : Nat} {k : Int} {u : Tok} {y : Value} {Q : Value → Shared → Prop} (S : St v0 h0 v L s.heap m mu) (hm : v a = some (lstN xs c)) (h0' : 0 ≤ k) (hk : k < 1000000) (hy : xs[k.toNat]? = some y) (h : Q y s)
    (hss : subscripted slice false (.ref a) (.int k u) = operate [.ref a, .int k u] (getItem (.ref a) (.int k u))) :
    wpAny (model PG w) A (subscriptTail value slice (.ref a) (.int k u)) Q E s := by
  have hl := isLst_of (S.gr.le _ _ hm)
  exact tail_any hl.typeIs slot_list_getitem.lookup (wpAny_getItem_list hl h0' (by (first | lia | omega)) (by simpa using hy) h) hss
end

theorem lenLs {w : World} {A : Around} {E : Value → Shared → Prop} {s : Shared} {v0 v : View} {h0 : Heap} {L : Addr} {m : Str → Option Value} {mu : List (Addr × Obj)} {a : Addr} {xs : List Value} {n : Nat} {Q : Value → Shared → Prop} (S : St v0 h0 v L s.heap m mu) (ha : v a = some (lstN xs n)) (hs : xs.length ≤ 1000000)
    (h : ∀ t tk, Q (.int xs.length t) { s with toks := tk }) : wpAny (model PG w) A (call (.builtin "len") [.ref a]) Q E s := by
  refine len_list (isLst_of (S.gr.le _ _ ha)) (by rw [List.size_toArray]; (first | lia | omega)) ?_
  rw [List.size_toArray]
  exact h _ _
local macro_rules | `(tactic| walk_at "subscriptTail Name Constant") => `(tactic| (refine muGet ‹_› (.head _) (by decide) (by decide) rfl ?_ (by with_unfolding_all rfl)))
local macro_rules | `(tactic| walk_at "call builtin:len") => `(tactic| (refine lenLs ‹_› (by with_reducible assumption) (by lia) ?_; intro _ _; (try dsimp only)))
local macro_rules | `(tactic| walk_at "binaryOp Mult int int") => `(tactic| (refine mul_int ?_ (mulOk (n := 32) (k := 17) (by lia) (by decide) (by decide))))
local macro_rules | `(tactic| walk_at "subscriptTail Subscript") => `(tactic| (refine lsGet ‹_› (by with_reducible assumption) (by lia) (by lia) (by with_reducible assumption) ?_ (by with_unfolding_all rfl)))
theorem take_ok {w : World} {v : View} {B : Addr} {o : Obj} {many : Int} {tm : Tok} (hm : 0 < many) (hb : BoxAt v o) :
    SpecB w 163 1 [.ref B, .int many tm] v B o (fun v' r o' => BoxAt v' o' ∧ ∃ z t, r = .int z t ∧ 0 ≤ z ∧ z < many) := by
  intro A E s Q g hA hg gB gs hv hB' hsB hvB kk
  have hG0 : Gl w s.heap := hg.keeps gs
  have hG : Gl w (kill s.heap B) := hg.keeps (sub_kill gB gs)
  refine enter hA hG0 hv (by rfl) (by kernel_rfl!) (BindsTo.of_eq rfl) (locs rfl) ?_
  intro L h₁ tk env A' S hA'
  replace S := S.take hsB hvB
  change St _ _ _ _ _ _ [(B, o)] at S
  clear hG0
  (try dsimp only)
  refine ex8 hb fun scr xs p sd t u c n hK => ?_
  clear hb
  refine and7 hK fun ho hscr hxs hxl hp0 hs0 hs1 => ?_
  clear hK
  subst ho
  repeat' walk1
  · refine setS (pre := []) (mu := []) S (by decide) (by simp) (by simp) fun h6 S6 => ?_
    change St _ _ _ _ _ _ [(B, lstN [.ref scr, .int (p + 1) _, .int sd u] c)] at S6
    clear S
    rename (p < (xs.length : Int)) => hlt
    have hpl : (p + 1 - 1).toNat < xs.length := by (first | lia | omega)
    obtain ⟨z, tz, hz⟩ := hxs _ (List.getElem_mem hpl)
    have hz' : xs[(p + 1 - 1).toNat]? = some (.int z tz) := by rw [List.getElem?_eq_getElem hpl, hz]
    repeat' walk1
    rename St _ _ _ _ _ _ _ => S7
    refine setS (pre := []) (mu := []) S7 (by decide) (by simp) (by simp) fun h8 S8 => ?_
    change St _ _ _ _ _ _ [(B, lstN [.ref scr, .int (p + 1) _, .int _ _] c)] at S8
    clear S7
    repeat' walk1
    obtain ⟨g1, e1⟩ := S8.give (.head _)
    exact kk _ _ _ _ _ g1 e1 ⟨BoxAt.of hscr hxs hxl (by (first | lia | omega)) (Int.fmod_nonneg_of_pos _ (by decide)) (Int.fmod_lt_of_pos _ (by decide)), _, _, rfl, Int.fmod_nonneg_of_pos _ hm, Int.fmod_lt_of_pos _ hm⟩
  · refine setS (pre := []) (mu := []) S (by decide) (by simp) (by simp) fun h6 S6 => ?_
    change St _ _ _ _ _ _ [(B, lstN [.ref scr, .int p t, .int _ _] c)] at S6
    clear S
    repeat' walk1
    obtain ⟨g1, e1⟩ := S6.give (.head _)
    exact kk _ _ _ _ _ g1 e1 ⟨BoxAt.of hscr hxs hxl hp0 (Int.fmod_nonneg_of_pos _ (by decide)) (Int.fmod_lt_of_pos _ (by decide)), _, _, rfl, Int.fmod_nonneg_of_pos _ hm, Int.fmod_lt_of_pos _ hm⟩

def dRat (q : Rat) : PyData := .tuple [.int q.num, .int q.den]
def dRow {α : Type} (f : α → PyData) (p : List α) : PyData := .list (p.map f)
def ReadsV (v : View) (x : Value) (d : PyData) : Prop := ∀ h : Heap, (∀ b o, v b = some o → h.get? b = some o) → ∃ as, Reads h x d as
theorem ReadsV.mono {v v' : View} {x : Value} {d : PyData} (h : ReadsV v x d) (s : Sub v v') : ReadsV v' x d := fun H k => h H fun b o e => k b o (s b o e)
theorem RatAt.reads {v : View} {x : Value} {q : Rat} (h : RatAt v x q) : ReadsV v x (dRat q) := fun H k => by
  obtain ⟨a, n, t, u, rfl, ha⟩ := h
  exact ⟨_, reads_tuple_at (k _ _ ha) rfl rfl (by simpa using ReadsAll.cons (.int _ _) (.cons (.int _ _) .nil))⟩
theorem readsAll_row {α : Type} {f : α → PyData} {H : Heap} : ∀ {xs : List Value} {p : List α}, xs.length = p.length → (∀ (i : Nat) x a, xs[i]? = some x → p[i]? = some a → ∃ as, Reads H x (f a) as) → ∃ as, ReadsAll H xs (p.map f) as
  | [], [], _, _ => ⟨_, .nil⟩
  | x :: xs, a :: p, hl, h => by
    obtain ⟨as, ha⟩ := h 0 x a rfl rfl
    obtain ⟨bs, hb⟩ := readsAll_row (f := f) (xs := xs) (p := p) (by simpa using hl) fun i x a e1 e2 => h (i + 1) x a (by simpa using e1) (by simpa using e2)
    exact ⟨_, .cons ha hb⟩
  | [], _ :: _, hl, _ => by cases hl
  | _ :: _, [], hl, _ => by cases hl
theorem lstReads {α : Type} {f : α → PyData} {v : View} {a : Addr} {xs : List Value} {c : Nat} {p : List α} (ha : v a = some (lstN xs c)) (hl : xs.length = p.length) (h : ∀ (i : Nat) x q, xs[i]? = some x → p[i]? = some q → ReadsV v x (f q)) : ReadsV v (.ref a) (dRow f p) := fun H k => by
  obtain ⟨as, hr⟩ := readsAll_row (f := f) (H := H) hl fun i x q e1 e2 => h i x q e1 e2 H k
  exact ⟨_, reads_list_at (k _ _ ha) rfl rfl (by simpa using hr)⟩
theorem PolyAt.reads {v : View} {x : Value} {p : List Rat} (h : PolyAt v x p) : ReadsV v x (dRow dRat p) := by
  obtain ⟨a, n, xs, rfl, ha, hv⟩ := h
  refine lstReads ha hv.length fun i x q e1 e2 => ?_
  obtain ⟨q', e, r⟩ := hv.item e1
  rw [e2] at e; cases e
  exact r.reads
theorem eqv_row {α : Type} [DecidableEq α] {f : α → PyData} (hf : ∀ a b, PyData.eqv (f a) (f b) = decide (a = b)) (p q : List α) : PyData.eqv (dRow f p) (dRow f q) = decide (p = q) := by
  unfold dRow
  rw [PyData.eqv]
  induction p generalizing q with
  | nil => cases q with
    | nil => rw [List.map_nil, PyData.eqvAll]; simp
    | cons b q => rw [List.map_nil, List.map_cons, PyData.eqvAll]; simp
  | cons a p ih =>
    cases q with
    | nil => rw [List.map_nil, List.map_cons, PyData.eqvAll]; simp
    | cons b q =>
      rw [List.map_cons, List.map_cons, PyData.eqvAll, hf, ih q]
      simp
theorem eqv_rat (a b : Rat) : PyData.eqv (dRat a) (dRat b) = decide (a = b) := by
  unfold dRat
  rw [PyData.eqv]
  simp only [PyData.eqvAll, PyData.eqv]
  by_cases h : a = b
  · subst h; simp
  · rw [decide_eq_false h]
    simp only [Bool.and_true, Bool.and_eq_false_iff, beq_eq_false_iff_ne]
    by_cases h1 : a.num = b.num
    · refine .inr fun h2 => h (Rat.ext h1 (by (first | lia | omega)))
    · exact .inl h1
theorem eqv_int (a b : Int) : PyData.eqv (.int a) (.int b) = decide (a = b) := by rw [PyData.eqv]; rfl
theorem lay_row {α : Type} {f : α → PyData} {k : Nat} (hf : ∀ a, (f a).canLay0 = true ∧ (f a).depth ≤ k) (p : List α) : (dRow f p).canLay0 = true ∧ (dRow f p).depth ≤ k + 1 := by
  unfold dRow
  rw [PyData.canLay0, PyData.depth]
  induction p with
  | nil => rw [List.map_nil, PyData.canLayAll0, PyData.depthAll]; exact ⟨rfl, by (first | lia | omega)⟩
  | cons a p ih =>
    rw [List.map_cons, PyData.canLayAll0, PyData.depthAll, (hf a).1]
    have := (hf a).2
    exact ⟨by simpa using ih.1, by have := ih.2; (first | lia | omega)⟩
theorem lay_rat (a : Rat) : (dRat a).canLay0 = true ∧ (dRat a).depth ≤ 1 := by
  unfold dRat
  simp [PyData.canLay0, PyData.canLayAll0, PyData.depth, PyData.depthAll]
theorem lay_int (a : Int) : (PyData.int a).canLay0 = true ∧ (PyData.int a).depth ≤ 0 := by simp [PyData.canLay0, PyData.depth]
theorem shaped_of {d : PyData} {k : Nat} (h : d.canLay0 = true ∧ d.depth ≤ k) (hk : k ≤ 64) : SeqAt.shaped d = true := by
  unfold SeqAt.shaped
  rw [h.1]; simp; (first | lia | omega)
theorem shaped_row (p : List Rat) : SeqAt.shaped (dRow dRat p) = true := shaped_of (lay_row lay_rat p) (by decide)
theorem shaped_ints (p : List Int) : SeqAt.shaped (dRow .int p) = true := shaped_of (lay_row lay_int p) (by decide)
section
variable {w : World} {A : Around} {E : Value → Shared → Prop} {s : Shared} {v0 v : View} {h0 : Heap} {L : Addr} {m : Str → Option Value} {mu : List (Addr × Obj)} {x y : Value} {da db : PyData} {n : Nat} {Q : Value → Shared → Prop}
theorem eqS (S : St v0 h0 v L s.heap m mu) (hA : Am A n) (hx : ReadsV v x da) (hy : ReadsV v y db) (sa : SeqAt.shaped da = true) (sb : SeqAt.shaped db = true) (h : Q (.bool (PyData.eqv da db)) s) : wpAny (model PG w) A (compareOp .Eq x y) Q E s := by
  obtain ⟨as, ra⟩ := hx _ S.gr.le
  obtain ⟨bs, rb⟩ := hy _ S.gr.le
  exact eq_dataH ra rb sa sb (by have := hA.un; show A.units + 64 < 9900; (first | lia | omega)) h
theorem neS (S : St v0 h0 v L s.heap m mu) (hA : Am A n) (hx : ReadsV v x da) (hy : ReadsV v y db) (sa : SeqAt.shaped da = true) (sb : SeqAt.shaped db = true) (h : Q (.bool (!PyData.eqv da db)) s) : wpAny (model PG w) A (compareOp .NotEq x y) Q E s := by
  obtain ⟨as, ra⟩ := hx _ S.gr.le
  obtain ⟨bs, rb⟩ := hy _ S.gr.le
  exact ne_dataH ra rb sa sb (by have := hA.un; show A.units + 64 < 9900; (first | lia | omega)) h
theorem polyEq {p q : List Rat} (S : St v0 h0 v L s.heap m mu) (hA : Am A n) (hx : PolyAt v x p) (hy : PolyAt v y q) (h : Q (.bool (decide (p = q))) s) : wpAny (model PG w) A (compareOp .Eq x y) Q E s :=
  eqS S hA hx.reads hy.reads (shaped_row _) (shaped_row _) (by rw [eqv_row eqv_rat]; exact h)
theorem polyNe {p q : List Rat} (S : St v0 h0 v L s.heap m mu) (hA : Am A n) (hx : PolyAt v x p) (hy : PolyAt v y q) (h : Q (.bool (!decide (p = q))) s) : wpAny (model PG w) A (compareOp .NotEq x y) Q E s :=
  neS S hA hx.reads hy.reads (shaped_row _) (shaped_row _) (by rw [eqv_row eqv_rat]; exact h)
theorem ratNe {p q : Rat} (S : St v0 h0 v L s.heap m mu) (hA : Am A n) (hx : RatAt v x p) (hy : RatAt v y q) (h : Q (.bool (!decide (p = q))) s) : wpAny (model PG w) A (compareOp .NotEq x y) Q E s :=
  neS S hA hx.reads hy.reads (shaped_of (lay_rat _) (by decide)) (shaped_of (lay_rat _) (by decide)) (by rw [eqv_rat]; exact h)
def IntsAt (v : View) (x : Value) (ns : List Int) : Prop := ∃ a ys c, x = .ref a ∧ v a = some (lstN ys c) ∧ ys.length = ns.length ∧ ∀ (i : Nat) y n, ys[i]? = some y → ns[i]? = some n → ∃ t, y = .int n t
theorem IntsAt.mono {v v' : View} {x : Value} {ns : List Int} (h : IntsAt v x ns) (s : Sub v v') : IntsAt v' x ns := let ⟨a, ys, c, e, k, r⟩ := h; ⟨a, ys, c, e, s _ _ k, r⟩
theorem IntsAt.reads {ns : List Int} (h : IntsAt v x ns) : ReadsV v x (dRow .int ns) := by
  obtain ⟨a, ys, c, rfl, ha, hl, hi⟩ := h
  refine lstReads ha hl fun i x q e1 e2 => ?_
  obtain ⟨t, rfl⟩ := hi i x q e1 e2
  exact fun H k => ⟨_, .int _ _⟩
theorem nilInts (h : PolyAt v x []) : IntsAt v x [] := by
  obtain ⟨a, n, xs, rfl, ha, hv⟩ := h
  cases hv
  exact ⟨a, [], n, rfl, ha, rfl, fun i y n e => by cases e⟩
theorem intsNe {p q : List Int} (S : St v0 h0 v L s.heap m mu) (hA : Am A n) (hx : IntsAt v x p) (hy : IntsAt v y q) (h : Q (.bool (!decide (p = q))) s) : wpAny (model PG w) A (compareOp .NotEq x y) Q E s :=
  neS S hA hx.reads hy.reads (shaped_ints _) (shaped_ints _) (by rw [eqv_row eqv_int]; exact h)
end
section
variable {w : World} {A : Around} {E : Value → Shared → Prop} {s : Shared} {v0 v : View} {h0 : Heap} {L : Addr} {m : Str → Option Value} {mu : List (Addr × Obj)} {x y : Value} {n : Nat}
theorem intsLast {value slice : Expr} {ns : List Int} {u : Tok} {z : Int} {Q : Value → Shared → Prop} (S : St v0 h0 v L s.heap m mu) (hx : IntsAt v x ns) (hq : ns.getLast? = some z)
    (h : ∀ t, Q (.int z t) s)
    (hss : ∀ a, subscripted slice false (.ref a) (.int (-1) u) = operate [.ref a, .int (-1) u] (getItem (.ref a) (.int (-1) u)) := by intro _; with_unfolding_all rfl) :
    wpAny (model PG w) A (subscriptTail value slice x (.int (-1) u)) Q E s := by
  obtain ⟨a, ys, c, rfl, ha, hl', hi⟩ := hx
  rw [List.getLast?_eq_getElem?] at hq
  have hlt := (List.getElem?_eq_some_iff.mp hq).1
  have hy : ys[ns.length - 1]? = some ys[ns.length - 1] := List.getElem?_eq_getElem (by (first | lia | omega))
  obtain ⟨t, ht⟩ := hi _ _ _ hy hq
  have hl := isLst_of (S.gr.le _ _ ha)
  refine tail_any hl.typeIs slot_list_getitem.lookup (wpAny_getItem_list_neg hl (by decide) (by rw [List.size_toArray]; (first | lia | omega)) (by decide) ?_ (h t)) (hss a)
  rw [List.size_toArray, hl', ar2 ns.length]
  simp only [List.getElem?_toArray]
  rw [hy, ht]
theorem intsInit {h1 : Heap} {e1 : Array GenState} {e2 : Drawn} {e3 : Nat} {e4 : OsState} {value slice : Expr} {ns : List Int} {u : Tok} {Q : Value → Shared → Prop} (S : St v0 h0 v L h1 m mu) (hx : IntsAt v x ns) (hs : ns.length ≤ 1000000)
    (h : ∀ r v' h', St v0 h0 v' L h' m mu → Sub v v' → IntsAt v' r ns.dropLast → Q r ⟨h', e1, e2, e3, e4⟩)
    (hss : ∀ a, subscripted slice false (.ref a) (.ref h1.objs.size) = operate [.ref h1.objs.size, .ref a] (getItem (.ref a) (.ref h1.objs.size)) := by intro _; with_unfolding_all rfl)
    (ht : ∀ a r, letTemporaryGo value (.ref a) r = pure () := by intro _ _; with_unfolding_all rfl) :
    wpAny (model PG w) A (subscriptTail value slice x (.ref h1.objs.size)) Q E ⟨h1.push { cls := .type "slice", data := .fields #[.none, .int (-1) u, .none] }, e1, e2, e3, e4⟩ := by
  obtain ⟨a, ys, c, rfl, ha, hl', hi⟩ := hx
  refine sliceRow (s := ⟨h1, e1, e2, e3, e4⟩) S ha (by (first | lia | omega)) (slicePick_neg1 ys) (fun b v' h' S' hs' hb => h _ v' h' S' hs' ⟨b, _, 0, rfl, hb, by rw [List.length_take, List.length_dropLast]; (first | lia | omega), fun i y n e1 e2 => ?_⟩) (hss a) (ht a)
  rw [List.dropLast_eq_take, List.getElem?_take] at e2
  rw [List.getElem?_take] at e1
  split at e2
  · rw [if_pos (by (first | lia | omega))] at e1
    exact hi i y n e1 e2
  · cases e2
theorem intsOf {a : Addr} {ys : List Value} {c : Nat} {lo hi : Int} (ha : v a = some (lstN ys c)) (h : ∀ y ∈ ys, ∃ z t, y = .int z t ∧ lo ≤ z ∧ z ≤ hi) : ∃ ns, IntsAt v (.ref a) ns ∧ ns.length = ys.length ∧ ∀ n ∈ ns, lo ≤ n ∧ n ≤ hi := by
  refine ⟨ys.map fun y => match y with | .int z _ => z | _ => 0, ⟨a, ys, c, rfl, ha, by simp, fun i y n e1 e2 => ?_⟩, by simp, fun n hn => ?_⟩
  · obtain ⟨z, t, rfl, _⟩ := h y (List.mem_of_getElem? e1)
    rw [List.getElem?_map, e1] at e2
    cases e2
    exact ⟨t, rfl⟩
  · obtain ⟨y, hy, rfl⟩ := List.mem_map.mp hn
    obtain ⟨z, t, rfl, h1, h2⟩ := h y hy
    exact ⟨h1, h2⟩
end
local macro_rules | `(tactic| walk_at "m.ints") => `(tactic| first | with_reducible assumption | exact IntsAt.mono (by with_reducible assumption) (by walk_at "m.sub") | exact nilInts (by walk_at "m.poly"))

local macro_rules | `(tactic| walk_at "compareOp NotEq") => `(tactic| (refine intsNe ‹_› ‹_› (by walk_at "m.ints") (by walk_at "m.ints") ?_))
local macro_rules | `(tactic| walk_at "subscriptTail Name UnaryOp") => `(tactic| (refine intsLast ‹_› (by walk_at "m.ints") (by with_reducible assumption) ?_; intro _; (try dsimp only)))
local macro_rules | `(tactic| walk_at "subscriptTail Name Slice") => `(tactic| (refine intsInit ‹_› (by walk_at "m.ints") (by lia) ?_; intro _ _ _ _ _ _; (try dsimp only)))
theorem St.two2 {v0 v : View} {h0 h : Heap} {L : Addr} {m : Str → Option Value} {mu : List (Addr × Obj)} {c d : Addr} {x y : Value} {o1 o2 : Obj} (S : St v0 h0 v L h m ((d, o2) :: (c, o1) :: mu)) (h1 : ∃ o, (c, o) ∈ [(d, o2), (c, o1)] ∧ o.data = .cell (some x)) (h2 : ∃ o, (d, o) ∈ [(d, o2), (c, o1)] ∧ o.data = .cell (some y)) :
    ∃ v', St v0 h0 v' L h m mu ∧ Sub v v' ∧ CellAt v' c x ∧ CellAt v' d y := by
  have nd : ¬ d = c := fun e => (List.nodup_cons.mp S.nd).1 (by rw [e]; exact .head _)
  refine byP fun PP hPP => ?_
  obtain ⟨p1, m1, e1⟩ := h1
  refine hPP ?_
  clear hPP
  refine byP fun PP hPP => ?_
  obtain ⟨p2, m2, e2⟩ := h2
  refine hPP ?_
  clear hPP
  have e1' : o1.data = .cell (some x) := by
    rcases List.mem_cons.mp m1 with q | q
    · cases q; exact absurd rfl nd
    · cases List.mem_singleton.mp q; exact e1
  have e2' : o2.data = .cell (some y) := by
    rcases List.mem_cons.mp m2 with q | q
    · cases q; exact e2
    · cases List.mem_singleton.mp q; exact absurd rfl nd
  have S1 := S.freeze
  have S2 := S1.freeze
  have s1 := S.subFreeze
  have s2 := S1.subFreeze
  exact ⟨_, S2, s1.trans s2, ⟨o1, addV_self _ _ _, e1'⟩, ⟨o2, s2 _ _ (addV_self _ _ _), e2'⟩⟩
theorem St.one2 {v0 v : View} {h0 h : Heap} {L : Addr} {m : Str → Option Value} {mu : List (Addr × Obj)} {c : Addr} {x : Value} {o1 : Obj} (S : St v0 h0 v L h m ((c, o1) :: mu)) (h1 : ∃ o, (c, o) ∈ [(c, o1)] ∧ o.data = .cell (some x)) : ∃ v', St v0 h0 v' L h m mu ∧ Sub v v' ∧ CellAt v' c x := by
  refine byP fun PP hPP => ?_
  obtain ⟨p1, m1, e1⟩ := h1
  refine hPP ?_
  clear hPP
  cases List.mem_singleton.mp m1
  exact ⟨_, S.freeze, S.subFreeze, ⟨o1, addV_self _ _ _, e1⟩⟩
theorem row_ok {w : World} {v : View} {B : Addr} {o : Obj} {most high : Int} {t u : Tok} (h0 : 0 ≤ most) (h1 : most ≤ 10) (h2 : 0 ≤ high) (h3 : high ≤ 10) (hb : BoxAt v o) :
    SpecB w 168 3 [.ref B, .int most t, .int high u] v B o (fun v' r o' => BoxAt v' o' ∧ ∃ ns, IntsAt v' r ns ∧ (ns.length : Int) ≤ most ∧ ∀ n ∈ ns, -high ≤ n ∧ n ≤ high) := by
  intro A E s Q g hA hg gB gs hv hB' hsB hvB kk
  have hG0 : Gl w s.heap := hg.keeps gs
  have hG : Gl w (kill s.heap B) := hg.keeps (sub_kill gB gs)
  refine enterC hA hG0 hv (by rfl) (by kernel_rfl!) (BindsTo.of_eq rfl) rfl (by decide +kernel) ?_
  intro L h₁ tk cells hcs hcell env A' S hA'
  replace S := S.take hsB hvB
  clear hG0
  (try dsimp only)
  refine byP fun PP hPP => ?_
  obtain ⟨o2, o1, rfl⟩ := twoCells (c := L + 2) (d := L + 1) hcs
  refine hPP ?_
  clear hPP
  refine byP fun PP hPP => ?_
  obtain ⟨v1, S1, hsub, c1, c2⟩ := St.two2 S (hcell (Str.ofString "box") (L + 1) rfl) (hcell (Str.ofString "high") (L + 2) rfl)
  refine hPP ?_
  clear hPP
  clear hcs hcell S
  refine wpAny_execs_cons ?_
  refine compA (by rfl) (by with_unfolding_all rfl) rfl (by decide) ?_ (fun _ => rfl)
  repeat' walk1
  refine callSB (pre := []) (mu := []) S1 hG hA' hB' (take_ok (by (first | lia | omega)) (hb.mono hsub)) (by decide) ?_
  rintro _ h2 v2 tk2 o2 S2 hs2 hPat
  refine byP fun PP hPP => ?_
  obtain ⟨hb2, z, tz, rfl, hz0, hz1⟩ := hPat
  refine hPP ?_
  clear hPP
  clear S1
  (try dsimp only)
  change St _ _ _ _ _ _ [(B, o2)] at S2
  repeat' walk1
  rename RangeAt _ _ _ _ => hr
  obtain ⟨r1, r2⟩ := range_small (a := 0) (b := z) (by (first | lia | omega)) (by (first | lia | omega)) (by (first | lia | omega))
  refine itRangeV (n := z.toNat) (by assumption) hA'.hd hr r1 (by rw [r2]; (first | lia | omega)) fun I h' S' T => ?_
  refine compLoop (fun i v ys mu => ∃ o', mu = [(B, o')] ∧ BoxAt v o' ∧ ∀ y ∈ ys, ∃ z t, y = .int z t ∧ -high ≤ z ∧ z ≤ high) S' T (by (first | lia | omega)) (by decide) rfl rfl ⟨o2, rfl, hb2.mono (by walk_at "m.sub"), fun y hy => (nomatch hy)⟩ ?_ ?_
  · rintro i xv v3 ys mu1 own h tk C mC hi ⟨t, rfl⟩ hsub3 ⟨o', rfl, hb3, hys⟩ S3 TT hT
    repeat' walk1
    refine callSB (pre := own) (mu := []) S3 hG (by assumption) hB' (take_ok (by (first | lia | omega)) hb3) (by decide) ?_
    rintro _ h5 v5 tk5 o5 S5 hs5 hPat
    refine byP fun PP hPP => ?_
    obtain ⟨hb5, z5, tz5, rfl, hz5, hz5'⟩ := hPat
    refine hPP ?_
    clear hPP
    clear S3
    repeat' walk1
    refine hT _ _ (itemEnd S5 hs5 ⟨o5, rfl, hb5, fun y hy => ?_⟩)
    rcases List.mem_append.mp hy with h | h
    · exact hys y h
    · rw [List.mem_singleton.mp h]
      exact ⟨_, _, rfl, by (first | lia | omega), by (first | lia | omega)⟩
  · rintro v3 ys mu1 h tk D c C mC hsub3 hPat hyl S3 hC hoff
    refine byP fun PP hPP => ?_
    obtain ⟨o', rfl, hb3, hys⟩ := hPat
    refine hPP ?_
    clear hPP
    have hD : addV v3 D (lstN ys c) D = some (lstN ys c) := addV_self _ _ _
    have hs4 := S3.subFreeze
    refine doneA S3.freeze hC ⟨hoff.ne, hoff.h0, by rw [addV_ne _ _ (Ne.symm (hoff.mu _ (.head _)))]; exact hoff.vw, fun p hp => hoff.mu p (.tail _ hp)⟩ (by rfl) (by rfl) fun h' tk' S4 => ?_
    replace hb3 := hb3.mono hs4
    clear S3 S' S2 hoff
    generalize addV v3 D (lstN ys c) = v4 at *
    (try dsimp only)
    repeat' walk1
    refine byP fun PP hPP => ?_
    obtain ⟨ns, hns, hnl, hnb⟩ := intsOf hD hys
    refine hPP ?_
    clear hPP
    refine whileS (fun k v m mu => ∃ x ns, k = ns.length ∧ m (Str.ofString "row") = some x ∧ IntsAt v x ns ∧ mu = [(B, o')] ∧ (ns.length : Int) ≤ most ∧ ∀ n ∈ ns, -high ≤ n ∧ n ≤ high) S4 _ ⟨_, ns, rfl, rfl, hns, rfl, by (first | lia | omega), hnb⟩ ?_
    rintro k v6 m6 mu6 h6 tk6 hs6 hPat S6 TT hT
    refine byP fun PP hPP => ?_
    obtain ⟨x6, ns6, rfl, hm6, ha6, rfl, hl6, hb6⟩ := hPat
    refine hPP ?_
    clear hPP
    cases e6 : ns6.getLast? with
    | none =>
      have e6' : ns6 = [] := List.getLast?_eq_none_iff.mp e6
      subst e6'
      repeat' walk1
      rename St _ _ _ _ _ _ _ => S9
      obtain ⟨g1, e1⟩ := S9.give (.head _)
      exact kk _ _ _ _ _ g1 e1 ⟨hb3.mono (by walk_at "m.sub"), _, ha6.mono (by walk_at "m.sub"), hl6, hb6⟩
    | some z6 =>
      have hne : ns6 ≠ [] := fun q => by rw [q] at e6; cases e6
      have hpos := List.length_pos_iff.mpr hne
      repeat' walk1
      · rename St _ _ _ _ _ _ _ => S9
        obtain ⟨g1, e1⟩ := S9.give (.head _)
        exact kk _ _ _ _ _ g1 e1 ⟨hb3.mono (by walk_at "m.sub"), _, ha6.mono (by walk_at "m.sub"), hl6, hb6⟩
      · have hdl : ns6.dropLast.length = ns6.length - 1 := List.length_dropLast
        refine hT _ _ (turnEnd (by assumption) (by walk_at "m.sub") ⟨_, ?_, _, ns6.dropLast, rfl, by walk_at "m.map", by walk_at "m.ints", rfl, by (first | lia | omega), fun n hn => hb6 n (List.dropLast_subset _ hn)⟩)
        (first | lia | omega)
      · rename St _ _ _ _ _ _ _ => S9
        obtain ⟨g1, e1⟩ := S9.give (.head _)
        exact kk _ _ _ _ _ g1 e1 ⟨hb3.mono (by walk_at "m.sub"), _, ha6.mono (by walk_at "m.sub"), hl6, hb6⟩

theorem addPolyV {w : World} {A : Around} {E : Value → Shared → Prop} {s : Shared} {v0 v : View} {h0 : Heap} {L : Addr} {m : Str → Option Value} {mu : List (Addr × Obj)} {x y : Value} {p q : List Rat} {Q : Value → Shared → Prop} (S : St v0 h0 v L s.heap m mu) (hx : PolyAt v x p) (hy : PolyAt v y q) (hl : p.length + q.length ≤ 1000000)
    (h : ∀ r v' h', St v0 h0 v' L h' m mu → Sub v v' → PolyAt v' r (p ++ q) → Q r { s with heap := h' }) : wpAny (model PG w) A (binaryOp .Add x y) Q E s := by
  refine byP fun PP hPP => ?_
  obtain ⟨b, n0, xs, rfl, hb, hvx⟩ := hx
  refine hPP ?_
  clear hPP
  refine byP fun PP hPP => ?_
  obtain ⟨a, n, ys, rfl, ha, hv⟩ := hy
  refine hPP ?_
  clear hPP
  have hb := S.gr.le _ _ hb
  have ha' := S.gr.le _ _ ha
  have e : xs.toArray ++ ys.toArray = (xs ++ ys).toArray := by simp
  have e1 := hvx.length
  have e2 := hv.length
  refine concat_meets ⟨_, hb, rfl⟩ ⟨_, ha', rfl⟩ noFill_list_add seq_list_add PySem.F.slot_list_add PySem.F.entry_list_add (PySem.F.args_list_add_2 _ _) (list_addW b a xs.toArray ys.toArray n0 n none none #[] #[] (by rw [List.size_toArray, List.size_toArray, sizeLine_eq]; (first | lia | omega))) ⟨hb, ha', ?_⟩
  rw [e]
  exact h _ _ _ (S.push _) (S.subPush _) (PolyAt.of (addV_self _ _ _) ((hvx.append hv).mono (S.subPush _)))
theorem hb_small {a b : Int} (h1 : -7 ≤ a) (h2 : a ≤ 7) (h3 : 1 ≤ b) (h4 : b ≤ 7) : Hb 3 (Rat.divInt a b) := by
  have h5 := divInt_num_le a b
  have h6 := divInt_den_le (a := a) (b := b) (by (first | lia | omega))
  exact ⟨by show _ < 8; (first | lia | omega), by show _ < 8; (first | lia | omega)⟩
theorem drawn_ok {w : World} {v : View} {B : Addr} {o : Obj} {most : Int} {t : Tok} (h0 : 0 ≤ most) (h1 : most ≤ 10) (hb : BoxAt v o) :
    SpecB w 190 4 [.ref B, .int most t] v B o (fun v' r o' => BoxAt v' o' ∧ ∃ p, PolyAt v' r p ∧ p ≠ [] ∧ Trimmed p ∧ (p.length : Int) ≤ most + 1 ∧ ∀ q ∈ p, Hb 3 q) := by
  intro A E s Q g hA hg gB gs hv hB' hsB hvB kk
  have hG0 : Gl w s.heap := hg.keeps gs
  have hG : Gl w (kill s.heap B) := hg.keeps (sub_kill gB gs)
  refine enterC hA hG0 hv (by rfl) (by kernel_rfl!) (BindsTo.of_eq rfl) rfl (by decide +kernel) ?_
  intro L h₁ tk cells hcs hcell env A' S hA'
  replace S := S.take hsB hvB
  clear hG0
  (try dsimp only)
  obtain ⟨o1, rfl⟩ := oneCell (c := L + 1) hcs
  refine byP fun PP hPP => ?_
  obtain ⟨v1, S1, hsub, c1⟩ := St.one2 S (hcell (Str.ofString "box") (L + 1) rfl)
  refine hPP ?_
  clear hPP
  clear hcs hcell S
  refine wpAny_execs_cons ?_
  refine compA (by rfl) (by with_unfolding_all rfl) rfl (by decide) ?_ (fun _ => rfl)
  repeat' walk1
  refine callSB (pre := []) (mu := []) S1 hG hA' hB' (row_ok h0 h1 (by decide) (by decide) (hb.mono hsub)) (by decide) ?_
  rintro _ h2 v2 tk2 o2 S2 hs2 hPat
  refine byP fun PP hPP => ?_
  obtain ⟨hb2, ns, ⟨a, ys, c, rfl, ha, hyl, hyi⟩, hnl, hnb⟩ := hPat
  refine hPP ?_
  clear hPP
  clear S1
  (try dsimp only)
  change St _ _ _ _ _ _ [(B, o2)] at S2
  refine itList S2 hA'.hd ha fun I h' S' T => ?_
  refine compLoop (fun i v ys mu => ∃ o' p, mu = [(B, o')] ∧ BoxAt v o' ∧ Vals v ys p ∧ p.length = i ∧ ∀ q ∈ p, Hb 3 q) S' T (by (first | lia | omega)) (by decide) rfl rfl ⟨o2, [], rfl, hb2, .nil, rfl, fun y hy => (nomatch hy)⟩ ?_ ?_
  · rintro i xv v3 ys3 mu1 own h tk C mC hi hxi hsub3 hPat S3 TT hT
    refine byP fun PP hPP => ?_
    obtain ⟨o', p, rfl, hb3, hvp, hpl, hpb⟩ := hPat
    refine hPP ?_
    clear hPP
    obtain ⟨t3, rfl⟩ := hyi i xv _ hxi (List.getElem?_eq_getElem (by (first | lia | omega)))
    have hn3 := hnb _ (List.getElem_mem (show i < ns.length by (first | lia | omega)))
    generalize ns[i] = n3 at *
    repeat' walk1
    refine callSB (pre := own) (mu := []) S3 hG (by assumption) hB' (take_ok (by (first | lia | omega)) hb3) (by decide) ?_
    rintro _ h5 v5 tk5 o5 S5 hs5 hPat
    refine byP fun PP hPP => ?_
    obtain ⟨hb5, z5, tz5, rfl, hz5, hz5'⟩ := hPat
    refine hPP ?_
    clear hPP
    clear S3
    repeat' walk1
    rename RatAt _ _ (Rat.divInt _ _) => hr6
    refine hT _ _ (itemEnd (by assumption) (by walk_at "m.sub") ⟨o5, p ++ [Rat.divInt n3 (1 + z5)], rfl, hb5.mono (by walk_at "m.sub"), (hvp.mono (by walk_at "m.sub")).append (Vals.one hr6), by rw [List.length_append, hpl]; rfl, fun q hq => ?_⟩)
    rcases List.mem_append.mp hq with h | h
    · exact hpb q h
    · rw [List.mem_singleton.mp h]
      exact hb_small (by (first | lia | omega)) (by (first | lia | omega)) (by (first | lia | omega)) (by (first | lia | omega))
  · rintro v3 ys3 mu1 h tk D c3 C mC hsub3 hPat hyl3 S3 hC hoff
    refine byP fun PP hPP => ?_
    obtain ⟨o', p, rfl, hb3, hvp, hpl, hpb⟩ := hPat
    refine hPP ?_
    clear hPP
    have hD : PolyAt (addV v3 D (lstN ys3 c3)) (.ref D) p := ⟨D, c3, ys3, rfl, addV_self _ _ _, hvp.mono S3.subFreeze⟩
    have hs4 := S3.subFreeze
    refine doneA S3.freeze hC ⟨hoff.ne, hoff.h0, by rw [addV_ne _ _ (Ne.symm (hoff.mu _ (.head _)))]; exact hoff.vw, fun p hp => hoff.mu p (.tail _ hp)⟩ (by rfl) (by rfl) fun h' tk' S4 => ?_
    replace hb3 := hb3.mono hs4
    clear S3 S' S2 hoff
    generalize addV v3 D (lstN ys3 c3) = v4 at *
    (try dsimp only)
    repeat' walk1
    refine callSB (pre := []) (mu := []) S4 hG (by assumption) hB' (take_ok (by decide) hb3) (by decide) ?_
    rintro _ h5 v5 tk5 o5 S5 hs5 hPat
    refine byP fun PP hPP => ?_
    obtain ⟨hb5, z5, tz5, rfl, hz5, hz5'⟩ := hPat
    refine hPP ?_
    clear hPP
    change St _ _ _ _ _ _ [(B, o5)] at S5
    clear S4
    repeat' walk1
    refine callSB (pre := []) (mu := []) S5 hG (by assumption) hB' (take_ok (by decide) hb5) (by decide) ?_
    rintro _ h6 v6 tk6 o6 S6 hs6 hPat
    refine byP fun PP hPP => ?_
    obtain ⟨hb6, z6, tz6, rfl, hz6, hz6'⟩ := hPat
    refine hPP ?_
    clear hPP
    change St _ _ _ _ _ _ [(B, o6)] at S6
    clear S5
    repeat' walk1
    rename RatAt _ _ (Rat.divInt _ _) => hr6
    refine nwL (by assumption) (fun b7 v7 h7 S7 hs7 hb7 => ?_) (Nat.le_trans (show 1 ≤ 1000 by decide) (by rw [sizeLine_eq]; decide))
    dsimp only
    have hpy : PolyAt v7 (.ref b7) [Rat.divInt (1 + z5) (1 + z6)] := PolyAt.of hb7 (Vals.one (hr6.mono hs7))
    refine addPolyV S7 (hD.mono (by walk_at "m.sub")) hpy (by simp; (first | lia | omega)) fun r8 v8 h8 S8 hs8 hp8 => ?_
    obtain ⟨g1, e1⟩ := S8.give (.head _)
    have hne : Rat.divInt (1 + z5) (1 + z6) ≠ 0 := fun e => by
      rw [← Rat.zero_divInt 1] at e
      have := (Rat.divInt_eq_divInt_iff (by (first | lia | omega)) (by decide)).mp e
      (first | lia | omega)
    refine kk _ _ _ _ _ g1 e1 ⟨hb6.mono (by walk_at "m.sub"), _, hp8, by simp, ?_, by simp; (first | lia | omega), fun q hq => ?_⟩
    · unfold Trimmed
      simpa using hne
    · rcases List.mem_append.mp hq with h | h
      · exact hpb q h
      · rw [List.mem_singleton.mp h]
        exact hb_small (by (first | lia | omega)) (by (first | lia | omega)) (by (first | lia | omega)) (by (first | lia | omega))

local macro_rules | `(tactic| walk_at "assign Tuple") => `(tactic| (refine asT ‹_› (Am.hd ‹_›) ‹_› (by rfl) (by rfl) ?_; intro _ _; (try dsimp only)))
local macro_rules | `(tactic| walk_at "binaryOp Pow int int") => `(tactic| (refine pow_int_small (by lia) (by lia) (by lia) ?_))
local macro_rules | `(tactic| walk_at "binaryOp Mult int int") => `(tactic| (refine mul_int ?_ (mulOk (by with_reducible assumption) (by with_reducible assumption) (by lia))))
theorem mul_lt {a b : Int} {n k : Nat} (ha : a.natAbs < 2 ^ n) (hb : b.natAbs < 2 ^ k) : (a * b).natAbs < 2 ^ (n + k) := by
  rw [Int.natAbs_mul, Nat.pow_add]
  exact Nat.mul_lt_mul'' ha hb
theorem add_lt {a b : Int} {n k : Nat} (ha : a.natAbs < 2 ^ n) (hb : b.natAbs < 2 ^ k) : (a + b).natAbs < 2 ^ (max n k + 1) := by
  have h1 := Nat.pow_le_pow_right (n := 2) (by (first | lia | omega)) (Nat.le_max_left n k)
  have h2 := Nat.pow_le_pow_right (n := 2) (by (first | lia | omega)) (Nat.le_max_right n k)
  rw [Nat.pow_succ]
  have := Int.natAbs_add_le a b
  (first | lia | omega)
theorem lt_mono {a : Int} {n k : Nat} (ha : a.natAbs < 2 ^ n) (h : n ≤ k) : a.natAbs < 2 ^ k := Nat.lt_of_lt_of_le ha (Nat.pow_le_pow_right (by (first | lia | omega)) h)
theorem pow_lt {a : Int} (ha : a.natAbs ≤ 5) (i : Nat) : (a ^ i).natAbs < 2 ^ (3 * i + 1) := by
  rw [Int.natAbs_pow]
  have h1 := Nat.pow_le_pow_left ha i
  have h2 : 5 ^ i ≤ 8 ^ i := Nat.pow_le_pow_left (by (first | lia | omega)) i
  rw [Nat.pow_succ, Nat.pow_mul]
  have h3 : 0 < (2 ^ 3) ^ i := Nat.pow_pos (by decide)
  have h4 : (2 ^ 3) ^ i = 8 ^ i := rfl
  (first | lia | omega)
theorem num_den (q : Rat) : (q.num : Rat) = q * (q.den : Rat) := by
  have h := Rat.num_divInt_den q
  have hd : (q.den : Rat) ≠ 0 := by
    intro e
    have : ((q.den : Nat) : Rat) = ((0 : Nat) : Rat) := e
    exact q.den_nz (Rat.natCast_inj.mp this)
  have e := Rat.divInt_eq_div q.num q.den
  rw [h] at e
  have e2 : ((q.den : Int) : Rat) = (q.den : Rat) := rfl
  rw [e2] at e
  have e3 : (q.num : Rat) / q.den * q.den = q.num := Rat.div_mul_cancel hd
  rw [← e] at e3
  exact e3.symm
theorem point_ok {w : World} {v : View} {x : Value} {p : List Rat} {place : Int} {n : Nat} {t : Tok} (hx : PolyAt v x p) (hl : p.length ≤ 8) (hp : ∀ q ∈ p, Hb n q) (hn : n ≤ 4194304) (h1 : -5 ≤ place) (h2 : place ≤ 5) :
    Spec w 185 1 [x, .int place t] v (fun v' r => ∃ top bottom t u, TupAt v' r [.int top t, .int bottom u] ∧ bottom ≠ 0 ∧ (top : Rat) = ev p place * bottom ∧ top.natAbs < 2 ^ (p.length * (n + 5) + 1) ∧ bottom.natAbs < 2 ^ (p.length * (n + 5) + 1)) := by
  intro A E s Q hA hG hv hB kk
  refine enter hA hG hv (by rfl) (by kernel_rfl!) (BindsTo.of_eq rfl) (locs rfl) ?_
  intro L h₁ tk env A' S hA'
  (try dsimp only)
  refine byP fun PP hPP => ?_
  obtain ⟨aa, ca, xs, rfl, hxa, hva⟩ := id hx
  refine hPP ?_
  clear hPP
  have hla := hva.length
  repeat' walk1
  rename St _ _ _ _ _ _ _ => S2
  have hs1 : Sub v _ := S2.gr.sub
  refine enumS S2 (hs1 _ _ hxa) fun e h' S1 T1 => ?_
  dsimp only
  refine forEnum (fun i v m mu => mu = [] ∧ m (Str.ofString "place") = some (.int place t) ∧ ∃ top bottom t u, m (Str.ofString "top") = some (.int top t) ∧ m (Str.ofString "bottom") = some (.int bottom u) ∧ bottom ≠ 0 ∧ (top : Rat) = ev (p.take i) place * bottom ∧ top.natAbs < 2 ^ (i * (n + 5) + 1) ∧ bottom.natAbs < 2 ^ (i * n + 1))
    S1 hA' T1 ⟨rfl, rfl, 0, 1, _, _, rfl, rfl, by decide, by show (0 : Rat) = 0 * 1; grind, by rw [Nat.zero_mul]; decide, by rw [Nat.zero_mul]; decide⟩ ?_ ?_
  · rintro i x t' v1 m1 mu1 own h tk hxi hs2 ⟨rfl, hmp, hJ⟩ S2 TT hT
    refine ex4 hJ fun top bottom t1 u1 hK => ?_
    clear hJ
    refine and6 hK fun hmt hmb hb0 htop hbt hbb => ?_
    clear hK
    refine byP fun PP hPP => ?_
    obtain ⟨q, hq, hrx⟩ := hva.item hxi
    refine hPP ?_
    clear hPP
    have hr1 : RatAt v1 x q := hrx.mono (hs1.trans hs2)
    have hbq := hp q (List.mem_of_getElem? hq)
    have hil : i < p.length := (List.getElem?_eq_some_iff.mp hq).1
    have etake : p.take (i + 1) = p.take i ++ [q] := by rw [List.take_add_one, hq]; rfl
    have hstep : (i + 1) * (n + 5) = i * (n + 5) + (n + 5) := by rw [Nat.add_mul, Nat.one_mul]
    have hmax : i * (n + 5) ≤ 8 * (n + 5) := Nat.mul_le_mul_right _ (by (first | lia | omega))
    have hB1 : i * (n + 5) ≤ 40000000 := by (first | lia | omega)
    have hd1 := hbq.den
    have hn1 := hbq.num
    have hpw : (place ^ ((i : Int)).toNat).natAbs < 2 ^ (3 * i + 1) := pow_lt (by (first | lia | omega)) _
    have hnp := mul_lt hn1 hpw
    have hnpb := mul_lt hnp hbb
    have htd := mul_lt hbt hd1
    have hbd := mul_lt hbb hd1
    have hstep2 : (i + 1) * n = i * n + n := by rw [Nat.add_mul, Nat.one_mul]
    have hex : i * (n + 5) = i * n + i * 5 := Nat.mul_add ..
    have hsum := add_lt htd hnpb
    repeat' walk1
    refine hT _ _ (turnEnd (by assumption) (by walk_at "m.sub") ⟨rfl, by walk_at "m.map", ex4i _ _ _ _ ⟨by walk_at "m.map", by walk_at "m.map", Int.mul_ne_zero hb0 (den_ne q), ?_, lt_mono hsum (by (first | lia | omega)), lt_mono hbd (by (first | lia | omega))⟩⟩)
    have e1 : ((top * q.den + q.num * place ^ ((i : Int)).toNat * bottom : Int) : Rat) = (top : Rat) * (q.den : Rat) + (q.num : Rat) * (place : Rat) ^ i * (bottom : Rat) := by
      rw [Int.toNat_natCast, Rat.intCast_add, Rat.intCast_mul, Rat.intCast_mul, Rat.intCast_mul, Rat.intCast_pow]; rfl
    have e2 : ((bottom * (q.den : Int) : Int) : Rat) = (bottom : Rat) * (q.den : Rat) := by rw [Rat.intCast_mul]; rfl
    have e3 : ev [q] (place : Rat) = q := by show q + (place : Rat) * 0 = q; grind
    rw [e1, e2, etake, ev_append, e3, htop, num_den q, List.length_take, Nat.min_eq_left (by (first | lia | omega))]
    grind
  · rintro v1 m1 mu1 h tk hs2 hPat S2
    refine byP fun PP hPP => ?_
    obtain ⟨rfl, hmp, top, bottom, t1, u1, hmt, hmb, hb0, htop, hbt, hbb⟩ := hPat
    refine hPP ?_
    clear hPP
    rw [hla, List.take_length] at htop
    rw [hla] at hbt hbb
    dsimp only
    repeat' walk1
    exact kk _ _ _ _ (St.gr (by assumption)) ⟨top, bottom, _, _, TupAt.of (by assumption), hb0, htop, hbt, lt_mono hbb (by have := Nat.mul_le_mul_left p.length (show n ≤ n + 5 by (first | lia | omega)); (first | lia | omega))⟩

section
variable {w : World} {A : Around} {E : Value → Shared → Prop} {s : Shared} {v0 v : View} {h0 : Heap} {L : Addr} {m : Str → Option Value} {mu pre : List (Addr × Obj)} {env : Env} {x : Str} {pos : Pos} {val : Value}
theorem nmM {c : Addr} {o : Obj} {Q : Value → Shared → Prop} (S : St v0 h0 v L s.heap m mu) (hc : env.cells.lookup x = some c) (hm : (c, o) ∈ mu) (hv : o.data = .cell (some val)) (h : Q val s)
    (hk : env.scope.kind = .function := by rfl) (hx : env.kindOf x = some .cell := by rfl) (hd : (x == ("__debug__" : Str)) = false := by decide) :
    wpAny (model PG w) A (eval (.Name x pos) env) Q E s :=
  wpAny_Name (wpAny_loadName_cell hk hx hc ⟨o, (S.mus _ hm).1, hv⟩ h) hd
theorem stM {c : Addr} {o : Obj} {y0 : Option Value} {Q : Unit → Shared → Prop} (S : St v0 h0 v L s.heap m (pre ++ (c, o) :: mu)) (hc : env.cells.lookup x = some c) (hv : o.data = .cell y0)
    (h : ∀ h' o', St v0 h0 v L h' m (pre ++ (c, o') :: mu) → o'.data = .cell (some val) → Q () { s with heap := h' })
    (hk : env.scope.kind = .function := by rfl) (hx : env.kindOf x = some .cell := by rfl) :
    wpAny (model PG w) A (storeName env x val) Q E s :=
  wpAny_storeName_cell hk hx hc ⟨o, (S.mus (c, o) (by simp)).1, hv⟩ fun h' ⟨o', e, hd⟩ hs => h h' o' (S.updB hs e) hd
end
def PointAt (P : Nat) (v : View) (r : Value) (p : List Rat) (place : Int) : Prop := ∃ top bottom t u, TupAt v r [.int top t, .int bottom u] ∧ bottom ≠ 0 ∧ (top : Rat) = ev p place * bottom ∧ top.natAbs < 2 ^ P ∧ bottom.natAbs < 2 ^ P
theorem PointAt.mono {P : Nat} {v v' : View} {r : Value} {p : List Rat} {place : Int} (h : PointAt P v r p place) (s : Sub v v') : PointAt P v' r p place := let ⟨a, b, t, u, e, k⟩ := h; ⟨a, b, t, u, e.mono s, k⟩
theorem point_ok' {w : World} {v : View} {x : Value} {p : List Rat} {place : Int} {P : Nat} {t : Tok} (hx : PolyAt v x p) (hl : p.length ≤ 4) (hp : ∀ q ∈ p, Hb 1048576 q) (hP : P = 4194325) (h1 : -5 ≤ place) (h2 : place ≤ 5) :
    Spec w 185 1 [x, .int place t] v (fun v' r => PointAt P v' r p place) := by
  have hle : p.length * (1048576 + 5) + 1 ≤ P := by (first | lia | omega)
  intro A E s Q hA hG hv hB kk
  exact point_ok hx (by (first | lia | omega)) hp (by (first | lia | omega)) h1 h2 A E s Q hA hG hv hB fun r h' v' tk g ⟨a, b, t, u, e, k1, k2, k3, k4⟩ => kk r h' v' tk g ⟨a, b, t, u, e, k1, k2, lt_mono k3 hle, lt_mono k4 hle⟩
theorem sum_eq {t1 b1 t2 b2 t3 b3 t4 b4 tw bw : Int} {e1 e2 e3 e4 ew : Rat} (h1 : (t1 : Rat) = e1 * b1) (h2 : (t2 : Rat) = e2 * b2) (h3 : (t3 : Rat) = e3 * b3) (h4 : (t4 : Rat) = e4 * b4) (hw : (tw : Rat) = ew * bw) (h : e1 * e2 + e3 * e4 = ew) :
    (t1 * t2 * b3 * b4 + t3 * t4 * b1 * b2) * bw = tw * (b1 * b2 * b3 * b4) := by
  refine Rat.intCast_inj.mp ?_
  simp only [Rat.intCast_mul, Rat.intCast_add]
  rw [h1, h2, h3, h4, hw, ← h]
  grind

local macro_rules | `(tactic| walk_at "subscriptTail Name Constant") => `(tactic| (refine lsGet ‹_› (by with_reducible assumption) (by decide) (by decide) rfl ?_ (by with_unfolding_all rfl)))
local macro_rules | `(tactic| walk_at "subscriptTail Subscript") => `(tactic| refine tupItem ‹_› (by walk_at "m.tup") (by rfl) (by rfl) ?_)
theorem len_two {α : Type} {l : List α} (h : l.length = 2) : ∃ a b, l = [a, b] := by
  match l, h with
  | [a, b], _ => exact ⟨a, b, rfl⟩
theorem is_sum_ok {w : World} {v : View} {x1 x2 x3 x4 x5 : Value} {l r o t d : List Rat} (h1 : PolyAt v x1 l) (h2 : PolyAt v x2 r) (h3 : PolyAt v x3 o) (h4 : PolyAt v x4 t) (h5 : PolyAt v x5 d)
    (l1 : l.length ≤ 4) (l2 : r.length ≤ 4) (l3 : o.length ≤ 4) (l4 : t.length ≤ 4) (l5 : d.length ≤ 4) (b1 : ∀ q ∈ l, Hb 1048576 q) (b2 : ∀ q ∈ r, Hb 1048576 q) (b3 : ∀ q ∈ o, Hb 1048576 q) (b4 : ∀ q ∈ t, Hb 1048576 q) (b5 : ∀ q ∈ d, Hb 1048576 q)
    (he : ∀ x, ev l x * ev o x + ev r x * ev t x = ev d x) : Spec w 195 2 [x1, x2, x3, x4, x5] v (fun _ r => r = .bool true) := by
  intro A E s Q hA hG hv hB kk
  refine enterC hA hG hv (by rfl) (by kernel_rfl!) (BindsTo.of_eq rfl) rfl (by decide +kernel) ?_
  intro L h₁ tk cells hcs hcell env A' S hA'
  (try dsimp only)
  obtain ⟨o1, rfl⟩ := oneCell (c := L + 1) hcs
  refine byP fun PP hPP => ?_
  obtain ⟨o1', ho1, hd1⟩ := hcell (Str.ofString "place") (L + 1) rfl
  refine hPP ?_
  clear hPP
  cases List.mem_singleton.mp ho1
  clear hcs hcell ho1
  obtain ⟨P, hP⟩ : ∃ P, P = 4194325 := ⟨_, rfl⟩
  repeat' walk1
  rename RangeAt _ _ _ _ => hr
  obtain ⟨r1, r2⟩ := range_small (a := -5) (b := 6) (by (first | lia | omega)) (by (first | lia | omega)) (by (first | lia | omega))
  refine itRangeV (n := 11) (by assumption) hA'.hd hr r1 (by rw [r2]; decide) fun I h' S' T => ?_
  dsimp only
  refine forS (fun i v m mu => ∃ o y0, mu = [(L + 1, o)] ∧ o.data = .cell y0 ∧ m (Str.ofString "left") = some x1 ∧ m (Str.ofString "right") = some x2 ∧ m (Str.ofString "one") = some x3 ∧ m (Str.ofString "other") = some x4 ∧ m (Str.ofString "due") = some x5)
    S' T.W T.hs T.hn T.hw T.hfp T.hlive ⟨o1, _, rfl, hd1, rfl, rfl, rfl, rfl, rfl⟩ ?_ ?_
  · rintro i xv v1 m1 mu1 own h tk hi ⟨ti, rfl⟩ hs2 hK S2 TT hT
    refine ex2 hK fun o2 y0 hK' => ?_
    clear hK
    refine and7 hK' fun hmu hd2 m1' m2' m3' m4' m5' => ?_
    clear hK'
    subst hmu
    have hpl1 : -5 ≤ (-5 + (i : Int) * 1) := by (first | lia | omega)
    have hpl2 : (-5 + (i : Int) * 1) ≤ 5 := by (first | lia | omega)
    generalize (-5 + (i : Int) * 1) = place at *
    refine wpAny_assign_Name (stM S2 (by rfl) hd2 (fun hh3 o3 S3 hd3 => ?_))
    clear S2 S' hd2
    have hss : Sub v v1 := (St.gr S3).sub
    have q1 := h1.mono hss
    have q2 := h2.mono hss
    have q3 := h3.mono hss
    have q4 := h4.mono hss
    have q5 := h5.mono hss
    clear hss
    refine wpAny_execs_cons ?_
    refine compA (by rfl) (by with_unfolding_all rfl) rfl (by decide) ?_ (fun _ => rfl)
    repeat' walk1
    rename_i aTa vTa hTa STa hsTa heTa
    refine itTup STa hA'.hd heTa fun Ia h2a S5a T2a => ?_
    refine compRA (fun i v y => ∃ p, [l, o][i]? = some p ∧ PointAt P v y p place) (fun i v v' y s ⟨p, e, k⟩ => ⟨p, e, k.mono s⟩) S5a T2a (by show 2 ≤ _; (first | lia | omega)) ?_ ?_ rfl (by decide) rfl rfl rfl rfl
    · rintro j xj v6 own6 h6 tk6 C mC hj hxj hs6 S6 TI hTI
      obtain ⟨p, hp, hq, hlp, hbp⟩ : ∃ p, [l, o][j]? = some p ∧ PolyAt v6 xj p ∧ p.length ≤ 4 ∧ ∀ q ∈ p, Hb 1048576 q := by
        match j, hxj, hj with
        | 0, e, _ => cases e; exact ⟨_, rfl, q1.mono (by walk_at "m.sub"), l1, b1⟩
        | 1, e, _ => cases e; exact ⟨_, rfl, q3.mono (by walk_at "m.sub"), l3, b3⟩
        | j + 2, _, h => exact absurd h (by simp)
      iterate 6 walk1
      refine nmM S6 (by rfl) (by simp) hd3 ?_
      iterate 2 walk1
      refine callS (by assumption) (by assumption) (by assumption) (by assumption) (point_ok' hq hlp hbp hP hpl1 hpl2) (by decide) ?_
      intro r8 h8 v8 tk8 S8 hs8 hr8
      exact hTI _ _ (itemEnd S8 hs8 ⟨rfl, _, hp, hr8⟩)
    rintro v6a ys6a h6a tk6a D6a c6a hs6a hl6a hR6a hD6a S6a
    clear S5a STa
    repeat' walk1
    refine compA (by rfl) (by with_unfolding_all rfl) rfl (by decide) ?_ (fun _ => rfl)
    repeat' walk1
    rename_i aTb vTb hTb STb hsTb heTb
    refine itTup STb hA'.hd heTb fun Ib h2b S5b T2b => ?_
    refine compRA (fun i v y => ∃ p, [r, t][i]? = some p ∧ PointAt P v y p place) (fun i v v' y s ⟨p, e, k⟩ => ⟨p, e, k.mono s⟩) S5b T2b (by show 2 ≤ _; (first | lia | omega)) ?_ ?_ rfl (by decide) rfl rfl rfl rfl
    · rintro j xj v6 own6 h6 tk6 C mC hj hxj hs6 S6 TI hTI
      obtain ⟨p, hp, hq, hlp, hbp⟩ : ∃ p, [r, t][j]? = some p ∧ PolyAt v6 xj p ∧ p.length ≤ 4 ∧ ∀ q ∈ p, Hb 1048576 q := by
        match j, hxj, hj with
        | 0, e, _ => cases e; exact ⟨_, rfl, q2.mono (by walk_at "m.sub"), l2, b2⟩
        | 1, e, _ => cases e; exact ⟨_, rfl, q4.mono (by walk_at "m.sub"), l4, b4⟩
        | j + 2, _, h => exact absurd h (by simp)
      iterate 6 walk1
      refine nmM S6 (by rfl) (by simp) hd3 ?_
      iterate 2 walk1
      refine callS (by assumption) (by assumption) (by assumption) (by assumption) (point_ok' hq hlp hbp hP hpl1 hpl2) (by decide) ?_
      intro r8 h8 v8 tk8 S8 hs8 hr8
      exact hTI _ _ (itemEnd S8 hs8 ⟨rfl, _, hp, hr8⟩)
    rintro v6b ys6b h6b tk6b D6b c6b hs6b hl6b hR6b hD6b S6b
    clear S5b STb
    clear S6a S3
    iterate 8 walk1
    refine nmM S6b (by rfl) (by simp) hd3 ?_
    iterate 2 walk1
    refine callS (by assumption) (by assumption) (by assumption) (by assumption) (point_ok' (q5.mono (by walk_at "m.sub")) l5 b5 hP hpl1 hpl2) (by decide) ?_
    intro r9 h9 v9 tk9 S9 hs9 hpt
    refine ex4 hpt fun tw bw _ _ hq => ?_
    clear hpt
    refine and5 hq fun hTw nw ew gtw gbw => ?_
    clear hq
    refine byP fun PP hPP => ?_
    obtain ⟨y1, y3, rfl⟩ := len_two hl6a
    refine hPP ?_
    clear hPP
    refine byP fun PP hPP => ?_
    obtain ⟨y2, y4, rfl⟩ := len_two hl6b
    refine hPP ?_
    clear hPP
    refine byP fun PP hPP => ?_
    obtain ⟨_, hc, hpt⟩ := hR6a 0 y1 rfl
    cases hc
    refine hPP ?_
    clear hPP
    refine ex4 hpt fun t1 c1 _ _ hq => ?_
    clear hpt
    refine and5 hq fun hT1 n1 e1 gt1 gb1 => ?_
    clear hq
    refine byP fun PP hPP => ?_
    obtain ⟨_, hc, hpt⟩ := hR6a 1 y3 rfl
    cases hc
    refine hPP ?_
    clear hPP
    refine ex4 hpt fun t3 c3 _ _ hq => ?_
    clear hpt
    refine and5 hq fun hT3 n3 e3 gt3 gb3 => ?_
    clear hq
    refine byP fun PP hPP => ?_
    obtain ⟨_, hc, hpt⟩ := hR6b 0 y2 rfl
    cases hc
    refine hPP ?_
    clear hPP
    refine ex4 hpt fun t2 c2 _ _ hq => ?_
    clear hpt
    refine and5 hq fun hT2 n2 e2 gt2 gb2 => ?_
    clear hq
    refine byP fun PP hPP => ?_
    obtain ⟨_, hc, hpt⟩ := hR6b 1 y4 rfl
    cases hc
    refine hPP ?_
    clear hPP
    refine ex4 hpt fun t4 c4 _ _ hq => ?_
    clear hpt
    refine and5 hq fun hT4 n4 e4 gt4 gb4 => ?_
    clear hq
    clear hR6a hR6b S6b
    have hsA : Sub v6a v9 := by walk_at "m.sub"
    have hsB : Sub v6b v9 := by walk_at "m.sub"
    replace hD6a := hsA _ _ hD6a
    replace hD6b := hsB _ _ hD6b
    replace hT1 := hT1.mono hsA
    replace hT3 := hT3.mono hsA
    replace hT2 := hT2.mono hsB
    replace hT4 := hT4.mono hsB
    have heq := sum_eq e1 e3 e2 e4 ew (he _)
    have w1 := mul_lt gt1 gt3
    have w2 := mul_lt w1 gb2
    have w3 := mul_lt w2 gb4
    have u1 := mul_lt gt2 gt4
    have u2 := mul_lt u1 gb1
    have u3 := mul_lt u2 gb3
    have s1 := mul_lt gb1 gb3
    have s2 := mul_lt s1 gb2
    have s3 := mul_lt s2 gb4
    have z1 := add_lt w3 u3
    clear T2a T2b T
    repeat' walk1
    · exact absurd heq (by assumption)
    · exact hT _ _ (turnEnd (by assumption) (by walk_at "m.sub") ⟨o3, _, rfl, hd3, by walk_at "m.map", by walk_at "m.map", by walk_at "m.map", by walk_at "m.map", by walk_at "m.map"⟩)
  · rintro v1 m1 mu1 h tk hs2 hPat S2
    refine byP fun PP hPP => ?_
    obtain ⟨o2, y0, rfl, hd2, m1', m2', m3', m4', m5'⟩ := hPat
    refine hPP ?_
    clear hPP
    dsimp only
    repeat' walk1
    exact kk _ _ _ _ S2.gr rfl

local macro_rules | `(tactic| walk_at "compareOp Eq") => `(tactic| (refine polyEq ‹_› ‹_› (by walk_at "m.poly") (by walk_at "m.poly") ?_))
local macro_rules | `(tactic| walk_at "compareOp NotEq") => `(tactic| first | (refine polyNe ‹_› ‹_› (by walk_at "m.poly") (by walk_at "m.poly") ?_) | (refine ratNe ‹_› ‹_› (by walk_at "m.rat") (by walk_at "m.rat") ?_))
theorem Am.ofCaller {l : List Env} (hl : callerA.frames = some l) (env : Env) (h1 : env.scope.isGenerator = false) (h2 : env.scope.isCoroutine = false) (h3 : env.builtins = builtinsNs) (h4 : env.globals = mainGlobals) : Am (callerA.deeper env) 20 := by
  refine ⟨rfl, ⟨env :: l, PySem.Around.frames_deeper hl⟩, by show 1 + claimMargin + 1 + 20 < 800; decide, by show 4 + 3 + 10 * 20 < 5000; decide, ?_⟩
  intro w s G
  refine byP fun PP hPP => ?_
  obtain ⟨K, mean, mg, mb, T⟩ := G
  refine hPP ?_
  clear hPP
  exact PylongRoom.of T.nolimit (by show 1 + claimMargin + 1 + 100 < 1000; decide) (PySem.SeerAt.of (Top.seer T (by decide +kernel)) rfl (PySem.Around.frames_deeper hl) h1 h2 h3 h4)
def vOf (h : Heap) (scr : Addr) : View := fun b => if b = 42 ∨ b = 43 ∨ b = scr then h.get? b else none
theorem vOf_le {h : Heap} {scr b : Addr} {o : Obj} (e : vOf h scr b = some o) : h.get? b = some o := by
  unfold vOf at e
  split at e
  · exact e
  · cases e
theorem stOf {h0 h : Heap} {L scr : Addr} {m : Str → Option Value} (hL : L = h0.objs.size) (F : Fr h0 L h m) : St (vOf h0 scr) h0 (vOf h0 scr) L h m [] := by
  subst hL
  refine ⟨⟨F.keep, fun _ _ e => e, fun b o e => F.keep b o (vOf_le e), fun _ e _ => e⟩, F.ns, size_none h0, ?_, fun p hp => (nomatch hp), .nil⟩
  unfold vOf
  split
  · exact size_none h0
  · rfl
theorem baseOf {P : Params} {h : Heap} {scr : Addr} (K : (hd.heap_39 P).In h) : Base (vOf h scr) := by
  exact ⟨⟨42, _, _, _, rfl, (if_pos (.inl rfl)).trans (K 42 _ rfl)⟩, ⟨43, _, _, _, rfl, (if_pos (.inr (.inl rfl))).trans (K 43 _ rfl)⟩⟩
theorem sliceLs {w : World} {A : Around} {E : Value → Shared → Prop} {s : Shared} {v0 v : View} {h0 : Heap} {L : Addr} {m : Str → Option Value} {mu : List (Addr × Obj)} {value slice : Expr} {a : Addr} {xs ys : List Value} {k : Int} {u : Tok} {Q : Value → Shared → Prop} (S : St v0 h0 v L s.heap m mu) (hl : s.heap.IsList a xs.toArray) (hs : xs.length ≤ 1000000)
    (e : slicePick xs.toArray none (some k) none = ys.toArray)
    (h : ∀ b v' h', St v0 h0 v' L h' m mu → Sub v v' → v' b = some (lstO ys) → Q (.ref b) { s with heap := h' })
    (hss : subscripted slice false (.ref a) (.ref s.heap.objs.size) = operate [.ref s.heap.objs.size, .ref a] (getItem (.ref a) (.ref s.heap.objs.size)) := by with_unfolding_all rfl)
    (ht : ∀ r, letTemporaryGo value (.ref a) r = pure () := by intro _; with_unfolding_all rfl) :
    wpAny (model PG w) A (subscriptTail value slice (.ref a) (.ref s.heap.objs.size)) Q E { s with heap := s.heap.push { cls := .type "slice", data := .fields #[.none, .int k u, .none] } } := by
  have S1 := S.more (h' := s.heap.push { cls := .type "slice", data := .fields #[.none, .int k u, .none] }) fun b o e => Heap.get?_push_of_some _ e
  refine subscriptTail_ops (Heap.IsList.typeIs (s := { s with heap := s.heap.push { cls := .type "slice", data := .fields #[.none, .int k u, .none] } }) (hl.push _)) list_getitem_lookup
    (wpAny_getItem_list_slice (hl.push _) (Heap.IsSliceOf.new ..) .none (.int k u) .none (by simp) ?_ (by rw [List.size_toArray, sizeLine_eq]; (first | lia | omega))) hss ht
  rw [e]
  exact h _ _ _ (S1.push _) (S1.subPush _) (addV_self _ _ _)
theorem ints_all {vs : List Value} {zs : List Int} (h : IntsAre vs zs) : (∀ y ∈ vs, ∃ z t, y = .int z t) ∧ vs.length = zs.length := by
  induction h with
  | nil => exact ⟨fun y hy => (nomatch hy), rfl⟩
  | cons _ _ _ ih => exact ⟨fun y hy => by rcases List.mem_cons.mp hy with rfl | hy; exact ⟨_, _, rfl⟩; exact ih.1 y hy, by simp [ih.2]⟩
theorem withAm {w : World} {env : Env} {body : List Stmt} {Q : Flow → Shared → Prop} {E : Value → Shared → Prop} {s : Shared}
    (h : let e := env; let A' := callerA.deeper e; ∀ (Q' : Flow → Shared → Prop) (E' : Value → Shared → Prop), (∀ a s, Q a s → Q' a s) → Am A' 20 → wpAny (model PG w) A' (execs body e) Q' E' s)
    (h1 : env.scope.isGenerator = false) (h2 : env.scope.isCoroutine = false) (h3 : env.builtins = builtinsNs) (h4 : env.globals = mainGlobals) : wpAny (model PG w) (callerA.deeper env) (execs body env) Q E s := h Q E (fun _ _ k => k) (Am.ofCaller (l := []) rfl env h1 h2 h3 h4)
def Mid (s : Shared) (v0 : View) (h0 : Heap) (L B : Addr) (fl : Flow) (s' : Shared) : Prop :=
  fl = .next ∧ ∃ h' tk' v' m' o' xl xr lft rgt, s' = { s with heap := h', toks := tk' } ∧ St v0 h0 v' L h' m' [(B, o')] ∧ m' (Str.ofString "left") = some xl ∧ m' (Str.ofString "right") = some xr ∧ PolyAt v' xl lft ∧ PolyAt v' xr rgt ∧
    Trimmed lft ∧ Trimmed rgt ∧ (∀ q ∈ lft, Hb 16 q) ∧ (∀ q ∈ rgt, Hb 16 q) ∧ lft.length ≤ 4 ∧ rgt.length ≤ 4 ∧ lft ≠ []
theorem Mid.of {s : Shared} {v0 : View} {h0 : Heap} {L B : Addr} {h' : Heap} {tk' : Nat} {v' : View} {m' : Str → Option Value} {o' : Obj} {xl xr : Value} {lft rgt : List Rat} (S : St v0 h0 v' L h' m' [(B, o')]) (h1 : m' (Str.ofString "left") = some xl) (h2 : m' (Str.ofString "right") = some xr) (h3 : PolyAt v' xl lft) (h4 : PolyAt v' xr rgt)
    (h5 : Trimmed lft) (h6 : Trimmed rgt) (h7 : ∀ q ∈ lft, Hb 16 q) (h8 : ∀ q ∈ rgt, Hb 16 q) (h9 : lft.length ≤ 4) (h10 : rgt.length ≤ 4) (h11 : lft ≠ []) : Mid s v0 h0 L B .next { s with heap := h', toks := tk' } :=
  ⟨rfl, _, _, _, _, _, _, _, _, _, rfl, S, h1, h2, h3, h4, h5, h6, h7, h8, h9, h10, h11⟩
theorem joinE {w : World} {A : Around} {X : Sem Flow} {Q : Flow → Shared → Prop} {E : Value → Shared → Prop} {s : Shared} {v0 v : View} {h0 : Heap} {L B : Addr} {m : Str → Option Value} {mu : List (Addr × Obj)} (S : St v0 h0 v L s.heap m mu)
    (ha : wpAny (model PG w) A X (Mid s v0 h0 L B) E s)
    (hb : ∀ h' tk' v' m' o' xl xr lft rgt, St v0 h0 v' L h' m' [(B, o')] → m' (Str.ofString "left") = some xl → m' (Str.ofString "right") = some xr → PolyAt v' xl lft → PolyAt v' xr rgt →
      Trimmed lft → Trimmed rgt → (∀ q ∈ lft, Hb 16 q) → (∀ q ∈ rgt, Hb 16 q) → lft.length ≤ 4 → rgt.length ≤ 4 → lft ≠ [] → Q .next { s with heap := h', toks := tk' }) :
    wpAny (model PG w) A X Q E s := by
  refine wpAny_mono ha (fun fl s' k => ?_) fun _ _ e => e
  refine byP fun PP hPP => ?_
  obtain ⟨rfl, h', tk', v', m', o', xl, xr, lft, rgt, rfl, k1, k2, k3, k4, k5, k6, k7, k8, k9, k10, k11, k12⟩ := k
  refine hPP ?_
  clear hPP
  exact hb _ _ _ _ _ _ _ _ _ k1 k2 k3 k4 k5 k6 k7 k8 k9 k10 k11 k12
theorem triReads {v : View} {x y z : Value} {a : Addr} {n : Nat} {d1 d2 d3 : PyData} (ha : v a = some { cls := .type "tuple", data := .seq [x, y, z].toArray n }) (hx : ReadsV v x d1) (hy : ReadsV v y d2) (hz : ReadsV v z d3) : ReadsV v (.ref a) (.tuple [d1, d2, d3]) := fun H k => by
  obtain ⟨a1, h1⟩ := hx H k
  obtain ⟨a2, h2⟩ := hy H k
  obtain ⟨a3, h3⟩ := hz H k
  exact ⟨_, reads_tuple_at (k _ _ ha) rfl rfl (by simpa using ReadsAll.cons h1 (.cons h2 (.cons h3 .nil)))⟩
theorem tri_eqv : PyData.eqv (.tuple [dRow dRat [], dRow dRat [], dRow dRat []]) (.tuple [dRow dRat [], dRow dRat [], dRow dRat []]) = true := by
  simp [dRow, PyData.eqv, PyData.eqvAll]
theorem tri_shaped : SeqAt.shaped (.tuple [dRow dRat [], dRow dRat [], dRow dRat []]) = true := by
  refine shaped_of (k := 2) ?_ (by decide)
  simp [dRow, PyData.canLay0, PyData.canLayAll0, PyData.depth, PyData.depthAll]
theorem post_ok (args : List WData) : PySem.Challenge.rw_pq0219_01.row.claim.post args (.bool true) args = true := by
  refine PySem.W.postW_of (X := true) (by rfl) ?_ rfl
  refine Eq.trans (w_eq_bool (w_res rfl) w_lit) ?_
  rfl
theorem fin : PySem.Challenge.rw_pq0219_01.Holds := by
  refine hd ?_
  k_go0
  rename Top _ _ _ _ _ _ => T
  rename Fr _ _ _ _ => F
  rename IntsAre _ _ => hI
  rename Frag.In _ _ => KX
  rename Heap.IsList _ _ _ => hLs
  rename (¬ _ < _) => h63
  have hG : Gl _ _ := ⟨KX, _, _, _, T⟩
  have hB := baseOf (scr := 42) KX
  have S := stOf (scr := 42) rfl F
  have hints := (ints_all hI).1
  have hlen := (ints_all hI).2
  have hLs2 := F.keep
  refine withAm ?_ rfl rfl rfl rfl
  intro env A' QF EF hQF hA
  try (rename News _ _ _ _ => N0; clear N0)
  try (rename Below _ _ _ _ => K0; clear K0)
  try clear F
  try (rename TopE _ _ _ _ => TE; clear TE)
  try (rename TopW _ _ _ => TW; clear TW)
  try (rename BMod _ _ _ _ _ => BM; clear BM)
  try (rename Tables _ _ _ _ => TB; clear TB)
  try (rename Glob _ _ _ _ _ _ _ _ => GL; clear GL)
  try (rename LooseAre _ _ _ => LA; clear LA)
  try clear T
  try clear KX
  iterate 11 walk1
  refine sliceLs (s := ⟨_, _, _, _, _⟩) (ys := List.take 40 _) S (let ⟨o, ho, r⟩ := hLs; ⟨o, hLs2 _ _ ho, r⟩) (by (first | lia | omega)) (slicePick_to _ 40 (by decide)) fun b1 v1 h1 S1 hs1 hb1 => ?_
  have hxs1 : ∀ y ∈ List.take 40 _, ∃ z t, y = Value.int z t := fun y hy => hints y (List.mem_of_mem_take hy)
  clear S
  dsimp only
  iterate 5 walk1
  refine nwM S1 (fun B h2 S2 => ?_) (Nat.le_trans (show 3 ≤ 1000 by decide) (by rw [sizeLine_eq]; decide))
  have hbox : ∀ t u, BoxAt v1 (lstO [.ref b1, .int 0 t, .int 8 u]) := fun t u => ⟨b1, _, 0, 8, t, u, 0, 0, rfl, hb1, hxs1, by rw [List.length_take]; (first | lia | omega), by decide, by decide, by decide⟩
  clear S1
  dsimp only
  iterate 12 walk1
  refine callSB (pre := []) (mu := []) (by assumption) hG hA hB (drawn_ok (by decide) (by decide) (hbox _ _)) (by decide) ?_
  rintro rs h3 v3 tk3 o3 S3 hs3 ⟨hb3, ps, hK⟩
  refine and5 hK fun hps hps0 hpst hpsl hpsb => ?_
  clear hK
  change St _ _ _ _ _ _ [(B, o3)] at S3
  clear S2 hbox
  have hm1 : 1 + ps.length * (3 + 3 + 1) ≤ 67108864 := by (first | lia | omega)
  have hps100 : ps.length ≤ 100 := by (first | lia | omega)
  iterate 20 walk1
  refine callSB (pre := []) (mu := []) (by assumption) hG hA hB (drawn_ok (by decide) (by decide) hb3) (by decide) ?_
  rintro rd h4 v4 tk4 o4 S4 hs4 ⟨hb4, pd, hK⟩
  refine and5 hK fun hpd hpd0 hpdt hpdl hpdb => ?_
  clear hK
  change St _ _ _ _ _ _ [(B, o4)] at S4
  clear S3
  have hpd100 : pd.length ≤ 100 := by (first | lia | omega)
  iterate 3 walk1
  rename PolyAt _ _ (if ps = [] ∨ pd = [] then _ else _) => hl1
  change PolyAt _ _ (mulP ps pd) at hl1
  iterate 16 walk1
  refine callSB (pre := []) (mu := []) (by assumption) hG hA hB (drawn_ok (by decide) (by decide) (hb4.mono (by walk_at "m.sub"))) (by decide) ?_
  rintro re h5 v5 tk5 o5 S5 hs5 ⟨hb5, pe, hK⟩
  refine and5 hK fun hpe hpe0 hpet hpel hpeb => ?_
  clear hK
  change St _ _ _ _ _ _ [(B, o5)] at S5
  clear S4
  have hpe100 : pe.length ≤ 100 := by (first | lia | omega)
  iterate 3 walk1
  rename PolyAt _ _ (if ps = [] ∨ pe = [] then _ else _) => hr1
  change PolyAt _ _ (mulP ps pe) at hr1
  iterate 11 walk1
  refine joinE (B := B) (by assumption) ?_ ?_
  · iterate 11 walk1
    refine callSB (pre := []) (mu := []) (by assumption) hG hA hB (take_ok (by decide) (hb5.mono (by walk_at "m.sub"))) (by decide) ?_
    rintro _ h6 v6 tk6 o6 S6 hs6 hPat
    refine byP fun PP hPP => ?_
    obtain ⟨hb6, z6, tz6, rfl, hz6, hz6'⟩ := hPat
    refine hPP ?_
    clear hPP
    change St _ _ _ _ _ _ [(B, o6)] at S6
    clear S5
    replace hl1 := hl1.mono (show Sub _ v6 by walk_at "m.sub")
    replace hr1 := hr1.mono (show Sub _ v6 by walk_at "m.sub")
    have hll := mulP_length ps pd
    have hlr := mulP_length ps pe
    have hp0 := List.length_pos_iff.mpr hps0
    have hd0 := List.length_pos_iff.mpr hpd0
    have he0 := List.length_pos_iff.mpr hpe0
    rw [if_neg (by (first | lia | omega))] at hll hlr
    have hlt : Trimmed (mulP ps pd) := prod_trimmed (ev_mulP ps pd) hll hpst hpdt hps0 hpd0
    have hrt : Trimmed (mulP ps pe) := prod_trimmed (ev_mulP ps pe) hlr hpst hpet hps0 hpe0
    have hlb : ∀ q ∈ mulP ps pd, Hb 16 q := bits_mono (mulP_bits hpsb hpdb) (by (first | lia | omega))
    have hrb : ∀ q ∈ mulP ps pe, Hb 16 q := bits_mono (mulP_bits hpsb hpeb) (by (first | lia | omega))
    have hl4 : (mulP ps pd).length ≤ 4 := by (first | lia | omega)
    have hr4 : (mulP ps pe).length ≤ 4 := by (first | lia | omega)
    have hlne : mulP ps pd ≠ [] := List.length_pos_iff.mp (by (first | lia | omega))
    clear hll hlr hpsb hpdb hpeb hps hpd hpe
    generalize mulP ps pd = lft at *
    generalize mulP ps pe = rgt at *
    iterate 4 walk1
    · iterate 7 walk1
      exact Mid.of (by assumption) (by walk_at "m.map") (by walk_at "m.map") (by walk_at "m.poly") (by walk_at "m.poly") hlt trimmed_nil hlb (fun q hq => (nomatch hq)) hl4 (by decide) hlne
    · iterate 1 walk1
      exact Mid.of (by assumption) (by walk_at "m.map") (by walk_at "m.map") hl1 hr1 hlt hrt hlb hrb hl4 hr4 hlne
  · intro hM tkM vM mM oM xl xr lft rgt SM hmL hmR hpL hpR hlt hrt hlb hrb hl4 hr4 hlne
    dsimp only
    iterate 2 walk1
    refine callNm2 (by assumption) hG hA hB (by rfl) (by kernel_rfl!) (by walk_at "m.map") (by walk_at "m.map") (qextended_ok (by walk_at "m.poly") (by walk_at "m.poly") hl4 hr4 hlb hrb hlt hrt) (by decide) ?_
    rintro rx0 hx0 vx0 tkx0 Sx0 hsx0 hx
    refine ex3 hx fun g sa ta hq => ?_
    clear hx
    obtain ⟨hq, hE⟩ := hq
    refine ex3 hq fun xg xs xt hr => ?_
    clear hq
    refine byP fun PP hPP => ?_
    obtain ⟨⟨ad, n, rfl, had⟩, hgp, hsp, htp⟩ := hr
    refine hPP ?_
    clear hPP
    refine asT (by assumption) (Am.hd (by assumption)) had (by rfl) (by rfl) fun h9 S9 => ?_
    have hg0 : g ≠ [] := fun e => by
      obtain ⟨u, hu⟩ := hE.gcd.da
      exact hlne (zero_row hlt fun x => by rw [hu x, e]; show _ * (0 : Rat) = 0; grind)
    have hg1 := hE.gcd.mono.resolve_left hg0
    iterate 19 walk1
    rw [decide_eq_false hg0]
    iterate 9 walk1
    refine polyLast (by assumption) (by walk_at "m.poly") hg1 ?_
    intro y1 hy1
    iterate 11 walk1
    have e11 : (1 : Rat) = Rat.divInt 1 1 := by rfl
    rw [decide_eq_true e11]
    iterate 5 walk1
    refine callNm2 (by assumption) hG hA hB (by rfl) (by kernel_rfl!) (by walk_at "m.map") (by walk_at "m.map") (qgcd_ok (by walk_at "m.poly") (by walk_at "m.poly") hl4 hr4 hlb hrb hlt hrt) (by decide) ?_
    rintro rx2 hh2 vx2 tkx2 Sx2 hsx2 hx2
    refine byP fun PP hPP => ?_
    obtain ⟨g2, hg2, hG2⟩ := hx2
    refine hPP ?_
    clear hPP
    obtain rfl : g2 = g := hG2.unique hE.gcd
    iterate 1 walk1
    rw [decide_eq_true (rfl : g2 = g2)]
    iterate 5 walk1
    refine callNm2 (by assumption) hG hA hB (by rfl) (by kernel_rfl!) (by walk_at "m.map") (by walk_at "m.map") (qgcd_ok (by walk_at "m.poly") (by walk_at "m.poly") hr4 hl4 hrb hlb hrt hlt) (by decide) ?_
    rintro rx3 hh3 vx3 tkx3 Sx3 hsx3 hx3
    refine byP fun PP hPP => ?_
    obtain ⟨g3, hg3, hG3⟩ := hx3
    refine hPP ?_
    clear hPP
    obtain rfl : g3 = g2 := hG3.unique hE.gcd.symm
    iterate 1 walk1
    rw [decide_eq_true (rfl : g3 = g3)]
    iterate 4 walk1
    have gl := hE.lg
    have ll := hE.ls
    have lt := hE.lt
    have gpos := List.length_pos_iff.mpr hg0
    have sl4 : sa.length ≤ 4 := by (first | lia | omega)
    have tl4 : ta.length ≤ 4 := by (first | lia | omega)
    have B1 := bits_mono hlb (show 16 ≤ 1048576 by decide)
    have B2 := bits_mono hrb (show 16 ≤ 1048576 by decide)
    have B3 := hE.bs
    have B4 := hE.bt
    have B5 := bits_mono hE.bg (show 32768 ≤ 1048576 by decide)
    have he1 : ∀ x, ev lft x * ev sa x + ev rgt x * ev ta x = ev g3 x := fun x => by rw [← hE.ev x]; grind
    iterate 5 walk1
    refine callNm5 (by assumption) hG hA hB (by rfl) (by kernel_rfl!) (by walk_at "m.map") (by walk_at "m.map") (by walk_at "m.map") (by walk_at "m.map") (by walk_at "m.map") (is_sum_ok (by walk_at "m.poly") (by walk_at "m.poly") (by walk_at "m.poly") (by walk_at "m.poly") (by walk_at "m.poly") hl4 hr4 sl4 tl4 gl B1 B2 B3 B4 B5 he1) (by decide) ?_
    rintro _ h10 v10 tk10 S10 hs10 rfl
    iterate 12 walk1
    rename_i aT vT hT ST hsT heT
    refine itTup ST (Am.hd (by assumption)) heT fun I hI' SI TI => ?_
    have hgt := hE.gcd.trimmed
    have hda := hE.gcd.da
    have hdb := hE.gcd.db
    replace hgp := hgp.mono (show Sub _ vT by walk_at "m.sub")
    replace hsp := hsp.mono (show Sub _ vT by walk_at "m.sub")
    replace htp := htp.mono (show Sub _ vT by walk_at "m.sub")
    replace hpL := hpL.mono (show Sub _ vT by walk_at "m.sub")
    replace hpR := hpR.mono (show Sub _ vT by walk_at "m.sub")
    dsimp only
    refine forS (fun i v m mu => mu = [(B, oM)] ∧ m (Str.ofString "left") = some xl ∧ m (Str.ofString "right") = some xr ∧ m (Str.ofString "found") = some xg ∧ m (Str.ofString "one") = some xs ∧ m (Str.ofString "other") = some xt)
      SI TI.W TI.hs TI.hn TI.hw TI.hfp TI.hlive ⟨rfl, by walk_at "m.map", by walk_at "m.map", by walk_at "m.map", by walk_at "m.map", by walk_at "m.map"⟩ ?_ ?_
    · rintro i xv v1 m1 mu1 own h tk hi hxi hs2 hK S2 TT hT
      refine and6 hK fun hmu m1' m2' m3' m4' m5' => ?_
      clear hK
      subst hmu
      obtain ⟨p, hp, hpt, hpb, hp4, hpd⟩ : ∃ p, PolyAt v1 xv p ∧ Trimmed p ∧ (∀ q ∈ p, Hb 16 q) ∧ p.length ≤ 4 ∧ ∃ u, ∀ x, ev p x = ev u x * ev g3 x := by
        match i, hxi, hi with
        | 0, e, _ => cases e; exact ⟨_, hpL.mono hs2, hlt, hlb, hl4, hda⟩
        | 1, e, _ => cases e; exact ⟨_, hpR.mono hs2, hrt, hrb, hr4, hdb⟩
        | j + 2, _, h => exact absurd h (by simp)
      clear hda hdb
      clear SI ST S10 S9 TI SM
      have hgp1 := hgp.mono hs2
      iterate 4 walk1
      have hB5 : itB 16 32768 4 ≤ 67108864 := by decide
      have hB6 : itB 16 32768 3 + 32768 ≤ 1048576 := by decide
      have hB7 := itB_mono 16 32768 (show p.length + 1 - g3.length ≤ 4 by (first | lia | omega))
      have hB8 := itB_mono 16 32768 (show p.length - g3.length ≤ 3 by (first | lia | omega))
      refine callNm2 (by assumption) hG hA hB (by rfl) (by kernel_rfl!) (by walk_at "m.map") (by walk_at "m.map") (qdivmod_ok (na := 16) (nb := 32768) hp hgp1 (by (first | lia | omega)) (by (first | lia | omega)) hpb hE.bg (by decide) (by decide) hpt hgt hg0 (by (first | lia | omega))) (by decide) ?_
      rintro _ h20 v20 tk20 S20 hs20 hPat
      refine byP fun PP hPP => ?_
      obtain ⟨q, r, ⟨ad2, xq, xr2, n2, rfl, had2, hq, hr⟩, hd⟩ := hPat
      refine hPP ?_
      clear hPP
      have hr0 : r = [] := rem_nil hd.ev hpd hd.tr hgt hd.lr
      subst hr0
      refine asT (by assumption) (Am.hd (by assumption)) had2 (by rfl) (by rfl) fun h21 S21 => ?_
      iterate 17 walk1
      rw [decide_eq_true (rfl : ([] : List Rat) = [])]
      iterate 23 walk1
      have hlq := hd.lq
      have C1 := bits_mono hd.bq (show itB 16 32768 (p.length - g3.length) + 32768 ≤ 1048576 by (first | lia | omega))
      have C2 := bits_mono hpb (show 16 ≤ 1048576 by decide)
      have C3 : ∀ q ∈ ([] : List Rat), Hb 1048576 q := fun q hq => (nomatch hq)
      have hdv : ∀ x, ev g3 x * ev q x + ev [] x * ev [] x = ev p x := fun x => by
        rw [hd.ev x]; show _ + 0 * 0 = _ + (0 : Rat); grind
      refine callS (by assumption) hG hA hB (is_sum_ok (by walk_at "m.poly") (by walk_at "m.poly") (by walk_at "m.poly") (by walk_at "m.poly") (by walk_at "m.poly") gl (by decide) (by (first | lia | omega)) (by decide) hp4 B5 C3 C1 C3 C2 hdv) (by decide) ?_
      rintro _ h22 v22 tk22 S22 hs22 rfl
      iterate 6 walk1
      exact hT _ _ (turnEnd (by assumption) (by walk_at "m.sub") ⟨rfl, by walk_at "m.map", by walk_at "m.map", by walk_at "m.map", by walk_at "m.map", by walk_at "m.map"⟩)
    · rintro v1 m1 mu1 h tk hs2 hPat S2
      refine byP fun PP hPP => ?_
      obtain ⟨rfl, m1', m2', m3', m4', m5'⟩ := hPat
      refine hPP ?_
      clear hPP
      clear hda hdb
      clear SI ST S10 S9 TI SM
      replace hgp := hgp.mono hs2
      replace hsp := hsp.mono hs2
      replace htp := htp.mono hs2
      replace hpL := hpL.mono hs2
      replace hpR := hpR.mono hs2
      dsimp only
      iterate 4 walk1
      refine lenNm (by assumption) hG (by walk_at "m.map") (by walk_at "m.poly") (by walk_at "m.short") ?_
      intro _ _
      dsimp only
      iterate 8 walk1
      refine lenNm (by assumption) hG (by walk_at "m.map") (by walk_at "m.poly") (by walk_at "m.short") ?_
      intro _ _
      dsimp only
      refine lenNm (by assumption) hG (by walk_at "m.map") (by walk_at "m.poly") (by walk_at "m.short") ?_
      intro _ _
      dsimp only
      iterate 8 walk1
      · exact absurd (by assumption) (ar7 ll)
      iterate 2 walk1
      refine lenNm (by assumption) hG (by walk_at "m.map") (by walk_at "m.poly") (by walk_at "m.short") ?_
      intro _ _
      dsimp only
      iterate 8 walk1
      refine lenNm (by assumption) hG (by walk_at "m.map") (by walk_at "m.poly") (by walk_at "m.short") ?_
      intro _ _
      dsimp only
      refine lenNm (by assumption) hG (by walk_at "m.map") (by walk_at "m.poly") (by walk_at "m.short") ?_
      intro _ _
      dsimp only
      iterate 8 walk1
      · exact absurd (by assumption) (ar7 lt)
      iterate 20 walk1
      have D1 : ([] : List Rat).length ≤ 4 := by decide
      have D2 : ∀ q ∈ ([] : List Rat), Hb 16 q := fun q hq => (nomatch hq)
      have D3 := trimmed_nil
      refine callS (by assumption) hG hA hB (qextended_ok (a := []) (b := []) (by walk_at "m.poly") (by walk_at "m.poly") D1 D1 D2 D2 D3 D3) (by decide) ?_
      rintro _ h30 v30 tk30 S30 hs30 hPat
      refine byP fun PP hPP => ?_
      obtain ⟨g0, s0, t0, ⟨yg, ys, yt, ⟨ad0, n0, rfl, had0⟩, hyg, hys, hyt⟩, hE0⟩ := hPat
      refine hPP ?_
      clear hPP
      have hgn : g0 = [] := by
        refine byP fun PP hPP => ?_
        obtain ⟨s', t', hst⟩ := hE0.gcd.cmb
        refine hPP ?_
        clear hPP
        exact zero_row hE0.gcd.trimmed fun x => by rw [hst x]; show _ * 0 + _ * 0 = (0 : Rat); grind
      obtain ⟨hsn, htn⟩ := hE0.nil hgn
      subst hgn hsn htn
      have hR30 := triReads had0 hyg.reads hys.reads hyt.reads
      iterate 15 walk1
      rename_i aT2 vT2 hT2 ST2 hsT2 heT2
      have hP2 := fun (x : Value) (k : PolyAt vT2 x []) => k.reads
      have hR31 := triReads heT2 (hP2 _ (by walk_at "m.poly")) (hP2 _ (by walk_at "m.poly")) (hP2 _ (by walk_at "m.poly"))
      refine eqS ST2 (by assumption) (hR30.mono (by walk_at "m.sub")) hR31 tri_shaped tri_shaped ?_
      rw [tri_eqv]
      iterate 15 walk1
      refine callS (by assumption) hG hA hB (qgcd_ok (by walk_at "m.poly") (by walk_at "m.poly") D1 hr4 D2 hrb D3 hrt) (by decide) ?_
      rintro rx4 hh4 vx4 tkx4 Sx4 hsx4 hx4
      refine byP fun PP hPP => ?_
      obtain ⟨g4, hg4, hG4⟩ := hx4
      refine hPP ?_
      clear hPP
      iterate 11 walk1
      refine callS (by assumption) hG hA hB (qgcd_ok (by walk_at "m.poly") (by walk_at "m.poly") hr4 D1 hrb D2 hrt D3) (by decide) ?_
      rintro rx5 hh5 vx5 tkx5 Sx5 hsx5 hx5
      refine byP fun PP hPP => ?_
      obtain ⟨g5, hg5, hG5⟩ := hx5
      refine hPP ?_
      clear hPP
      obtain rfl : g4 = g5 := hG4.unique hG5.symm
      iterate 1 walk1
      rw [decide_eq_true (rfl : g4 = g4)]
      rename St _ _ _ _ _ _ _ => SZ
      refine hQF _ _ ?_
      refine ⟨.inl ⟨_, .bool true, [], rfl, fun _ => ?_, .bool _, ?_, unshared_nil⟩, SZ.gr.ext, rfl, by assumption⟩
      · rfl
      · exact post_ok _

end Mine

theorem PySem.Challenge.cw_pq0219_01_holds : PySem.Challenge.rw_pq0219_01.Holds :=
  Mine.fin
#print axioms PySem.Challenge.cw_pq0219_01_holds
