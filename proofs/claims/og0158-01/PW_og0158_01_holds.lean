import PyProof.Rows.All
import Wide.All
import OpenK.AllK
import Wide.FinOn
import PySem.Challenge.RW_og0158_01
open PySem PySem.W PyProof.Rows PySem.Calls
set_option Elab.async false
set_option maxRecDepth 100000
set_option maxHeartbeats 8000000
namespace Mine
section
-- the written part alone: «k_head» lays it (Mine.hd.heap_1); the head itself is run in the last theorem
local macro_rules | `(tactic| o_head $_) => `(tactic| assumption)
theorem hd (h : OpenRow.Holds PySem.Challenge.rw_og0158_01.row) : OpenRow.Holds PySem.Challenge.rw_og0158_01.row := by
  k_head
end
/-- the text's statements that the head keeps -/
def keepAt (is : List Nat) (l : List Stmt) : List Stmt := is.filterMap fun i => l[i]?
def hdV : Program := { PySem.Challenge.pw_og0158_01 with main := { PySem.Challenge.pw_og0158_01.main with body := keepAt [0, 2, 4, 5, 7, 8, 9, 10, 11, 12, 13, 14, 15, 16, 17, 19, 20, 21, 22, 23] PySem.Challenge.pw_og0158_01.main.body } }
section
-- KB
/-- what stands at the foot: the text's own objects, the tops' facts -/
structure Foot (w : World) (h : Heap) : Prop where
  k : (hd.heap_1 w.params).In h
  top : ∃ mean mg mb, Top hdV (looseW hdV [Str.ofString "PaperError"]) mean mg mb h

theorem Foot.keeps {w : World} {h h' : Heap} (x : Foot w h) (k : ∀ b o, h.get? b = some o → h'.get? b = some o) : Foot w h' :=
  ⟨x.k.keeps k, let ⟨a, b, c, t⟩ := x.top; ⟨a, b, c, t.keeps k⟩⟩

abbrev ar (dp un : Nat) (fr : Option (List Env)) (gd : Option (List Code)) : Around := { handled := none, depth := dp, frames := fr, guards := gd, units := un }

theorem enter {w : World} {A : Around} {s : Shared} {R : Result → Shared → Prop} {name qual : Str} {params : Arguments} {body : List Stmt} {scope : Scope} {dV kV doc pm cdv ct oc : Value} {an od : Option Addr} {osl : Array (Option Value)} {f : Addr} {args : Args} {binds : List (Str × Value)}
    (mu : List (Addr × Obj)) (X : Foot w (hideAll s.heap (mu.map (·.1)))) (hm : ∀ p ∈ mu, s.heap.get? p.1 = some p.2)
    (ho : (hd.heap_1 w.params).lookup f = some ⟨oc, od, .func (fnOf name qual params body scope dV kV doc pm an cdv ct), osl⟩) (hcd : codeIn (hd.heap_1 w.params) cdv qual = true) (hroom : A.depth < recursionLimit)
    (hbind : BindsTo s (fnOf name qual params body scope dV kV doc pm an cdv ct) args binds) (hloc : ∀ y ∈ binds, scope.names.lookup y.1 = some .local)
    (h : ∀ g L' h₁, (∀ b o, s.heap.get? b = some o → b ∉ mu.map (·.1) → g.get? b = some o) → Fr g L' h₁ (fun y => binds.reverse.lookup y) → News g L' h₁ mu → (∀ p ∈ mu, p.1 < L') → (hd.heap_1 w.params).In g → (∃ mean mg mb, Top hdV (looseW hdV [Str.ofString "PaperError"]) mean mg mb g) →
      wpAny (model PySem.Challenge.rw_og0158_01.row.prog w) (A.deeper (envOf qual scope L' f cdv)) (execs body (envOf qual scope L' f cdv))
        (fun fl s' => R (.ok (.ret (match fl with | .ret v => v | _ => .none))) s')
        (fun _ _ => False)
        { s with heap := h₁, toks := s.toks + binds.length })
    (hco : scope.isCoroutine = false) (hgen : scope.isGenerator = false) (hk : scope.kind = .function)
    (hcell : ∀ x ∈ scope.names, x.2 ≠ .cell) : codeAny (model PySem.Challenge.rw_og0158_01.row.prog w) A (.call (.ref f) args) R s := by
  have st : (hideAll s.heap (mu.map (·.1))).StaysIn s.heap := fun b o e => of_hideAll _ e
  obtain ⟨mean, mg, mb, T⟩ := X.top
  refine codeAny_call_def (fd := fnX name qual params body scope [] dV kV doc pm an cdv ct) (body := body) (binds := binds) hroom (st _ _ (X.k _ _ ho)) rfl (T.nolimit.keeps st) ((codeRec_of X.k hcd).keeps st) rfl hbind hcell hloc (fun h₁ hns hk₁ => ?_) hco hgen hk
  exact wpAny_mono (h _ s.heap.objs.size h₁ (fun b o e n => hideAll_get _ e n) ⟨hns, fun b o e => hk₁ b o (of_hideAll _ e), Nat.le_of_eq (hideAll_size _ _)⟩
    (fun p hp => ⟨hk₁ _ _ (hm p hp), Nat.ne_of_lt (Heap.lt_size (hm p hp)), hideAll_none _ (List.mem_map_of_mem hp)⟩) (fun p hp => Heap.lt_size (hm p hp)) X.k X.top) (fun fl s' hl => hl) fun _ _ y => y.elim

theorem enterC {w : World} {A : Around} {s : Shared} {R : Result → Shared → Prop} {name qual : Str} {params : Arguments} {body : List Stmt} {scope : Scope} {dV kV doc pm cdv ct oc : Value} {an od : Option Addr} {osl : Array (Option Value)} {f : Addr} {args : Args} {binds : List (Str × Value)}
    (mu : List (Addr × Obj)) (X : Foot w (hideAll s.heap (mu.map (·.1)))) (hm : ∀ p ∈ mu, s.heap.get? p.1 = some p.2)
    (ho : (hd.heap_1 w.params).lookup f = some ⟨oc, od, .func (fnOf name qual params body scope dV kV doc pm an cdv ct), osl⟩) (hcd : codeIn (hd.heap_1 w.params) cdv qual = true) (hroom : A.depth < recursionLimit)
    (hbind : BindsTo s (fnOf name qual params body scope dV kV doc pm an cdv ct) args binds) (hkind : (binds.all fun y => scope.names.lookup y.1 == some .local || scope.names.lookup y.1 == some .cell) = true)
    (hnd : ((cellsFrom 0 scope.names []).map (·.1)).Nodup)
    (h : ∀ g L' h₁ tk cells, (∀ b o, s.heap.get? b = some o → b ∉ mu.map (·.1) → g.get? b = some o) → Fr g L' h₁ (bindL (envOfC qual scope L' f cdv).kindOf binds fun _ => none) → News g L' h₁ (cells ++ mu) →
      CellsAre (bindC (envOfC qual scope L' f cdv).kindOf binds fun _ => none) (cellsFrom (L' + 1) scope.names []) cells → (∀ p ∈ mu, p.1 < L') → (hd.heap_1 w.params).In g → (∃ mean mg mb, Top hdV (looseW hdV [Str.ofString "PaperError"]) mean mg mb g) →
      wpAny (model PySem.Challenge.rw_og0158_01.row.prog w) (A.deeper (envOfC qual scope L' f cdv)) (execs body (envOfC qual scope L' f cdv))
        (fun fl s' => R (.ok (.ret (match fl with | .ret v => v | _ => .none))) s')
        (fun _ _ => False)
        { s with heap := h₁, toks := tk })
    (hco : scope.isCoroutine = false) (hgen : scope.isGenerator = false) (hk : scope.kind = .function) : codeAny (model PySem.Challenge.rw_og0158_01.row.prog w) A (.call (.ref f) args) R s := by
  have st : (hideAll s.heap (mu.map (·.1))).StaysIn s.heap := fun b o e => of_hideAll _ e
  obtain ⟨mean, mg, mb, T⟩ := X.top
  refine codeAny_call_function hroom (st _ _ (X.k _ _ ho)) rfl hco hgen rfl ((codeRec_of X.k hcd).keeps st) (hbind _ _ _ _ ?_)
  refine wpAny_newFunctionEnv_cells hk (kindsX hkind _) fun env' he s' x => ?_
  subst he
  refine ⟨(T.nolimit.keeps st).keeps x.toInCall.keep, codeAny_func ?_⟩
  obtain ⟨h₁, tk, rfl, _⟩ := x.done
  have hk₁ := x.toInCall.keep
  obtain ⟨cells, NC, Y⟩ := Cl.news (h₀ := s.heap) (Nat.le_refl _) fun n c hm => ⟨x.cell n c (lookup_of_mem_nodup (cellsFrom_names scope.names 0 (s.heap.objs.size + 1) [] [] rfl ▸ hnd) hm), x.above n c hm⟩
  refine wpAny_mono (h _ s.heap.objs.size h₁ tk cells (fun b o e n => hideAll_get _ e n) ⟨x.toInCall.ns, fun b o e => hk₁ b o (of_hideAll _ e), Nat.le_of_eq (hideAll_size _ _)⟩ (fun p hp => ?_) Y (fun p hp => Heap.lt_size (hm p hp)) X.k X.top) (fun fl s' hl => hl) fun _ _ y => y.elim
  rcases List.mem_append.mp hp with hp | hp
  · refine ⟨(NC p hp).1, (NC p hp).2.1, ?_⟩
    cases q : (hideAll s.heap (mu.map (·.1))).get? p.1 with
    | none => rfl
    | some o => have := of_hideAll _ q; rw [(NC p hp).2.2] at this; cases this
  · exact ⟨hk₁ _ _ (hm p hp), Nat.ne_of_lt (Heap.lt_size (hm p hp)), hideAll_none _ (List.mem_map_of_mem hp)⟩
end
section
-- KD
inductive Tr where
  | none
  | bool (b : Bool)
  | int (i : Int)
  | dec (t p : Int)
  | name (x : Str)
  | string (b : Array UInt8) (hx : Bool)
  | ref (n g : Int)
  | arr (xs : List Tr)
  | dict (ks : List Str) (xs : List Tr)
  | stream (ks : List Str) (xs : List Tr) (b : Array UInt8)

abbrev Led := List (Addr × Obj)

/-- the keys of a dict: strs -/
abbrev sK (w : World) := PySem.strKind PySem.Challenge.rw_og0158_01.row.prog w

mutual
inductive TrIn (P : World) (S : Led) : Value → Tr → Prop
  | none : TrIn P S .none .none
  | bool (b : Bool) : TrIn P S (.bool b) (.bool b)
  | int (i : Int) (t : Tok) : TrIn P S (.int i t) (.int i)
  | dec {a d : Addr} {h1 h2 : Int} {t1 t2 : Tok} {n : Nat} {i j : Int} {u1 u2 : Tok} : (a, instObj 143 d) ∈ S → (d, dictOf [⟨h1, .str (Str.ofString "top") t1, .int i u1⟩, ⟨h2, .str (Str.ofString "places") t2, .int j u2⟩] n) ∈ S → TrIn P S (.ref a) (.dec i j)
  | name {a d : Addr} {h1 : Int} {t1 : Tok} {n : Nat} {x : Str} {u1 : Tok} : (a, instObj 171 d) ∈ S → (d, dictOf [⟨h1, .str (Str.ofString "text") t1, .str x u1⟩] n) ∈ S → TrIn P S (.ref a) (.name x)
  | string {a d : Addr} {h1 h2 : Int} {t1 t2 : Tok} {n : Nat} {b : Array UInt8} {hx : Bool} {u1 : Tok} : (a, instObj 193 d) ∈ S → (d, dictOf [⟨h1, .str (Str.ofString "octets") t1, .bytes b u1⟩, ⟨h2, .str (Str.ofString "is_hex") t2, .bool hx⟩] n) ∈ S → TrIn P S (.ref a) (.string b hx)
  | ref {a d : Addr} {h1 h2 : Int} {t1 t2 : Tok} {n : Nat} {i j : Int} {u1 u2 : Tok} : (a, instObj 242 d) ∈ S → (d, dictOf [⟨h1, .str (Str.ofString "number") t1, .int i u1⟩, ⟨h2, .str (Str.ofString "generation") t2, .int j u2⟩] n) ∈ S → TrIn P S (.ref a) (.ref i j)
  | arr {a : Addr} {vs : List Value} {n : Nat} {xs : List Tr} : (a, listOf vs.toArray n) ∈ S → TrAll P S vs xs → xs.length ≤ 8 → TrIn P S (.ref a) (.arr xs)
  | dict {a : Addr} {o : Obj} {kvs : List (Str × Value)} {xs : List Tr} : (a, o) ∈ S → (a == sysModules) = false → o.IsDictOf (sK P) kvs → TrAll P S (kvs.map (·.2)) xs → xs.length ≤ 8 → TrIn P S (.ref a) (.dict (kvs.map (·.1)) xs)
  | stream {a d c : Addr} {h1 h2 : Int} {t1 t2 : Tok} {n : Nat} {b : Array UInt8} {u1 : Tok} {o : Obj} {kvs : List (Str × Value)} {xs : List Tr} : (a, instObj 214 d) ∈ S → (d, dictOf [⟨h1, .str (Str.ofString "head") t1, .ref c⟩, ⟨h2, .str (Str.ofString "octets") t2, .bytes b u1⟩] n) ∈ S →
      (c, o) ∈ S → (c == sysModules) = false → o.IsDictOf (sK P) kvs → TrAll P S (kvs.map (·.2)) xs → xs.length ≤ 8 → TrIn P S (.ref a) (.stream (kvs.map (·.1)) xs b)
inductive TrAll (P : World) (S : Led) : List Value → List Tr → Prop
  | nil : TrAll P S [] []
  | cons {v : Value} {vs : List Value} {x : Tr} {xs : List Tr} : TrIn P S v x → TrAll P S vs xs → TrAll P S (v :: vs) (x :: xs)
end

theorem TrAll.length {P : World} {S : Led} : ∀ {vs : List Value} {xs : List Tr}, TrAll P S vs xs → vs.length = xs.length
  | _, _, .nil => rfl
  | _, _, .cons _ h => by simp [h.length]
theorem TrAll.at {P : World} {S : Led} : ∀ {vs : List Value} {xs : List Tr} {i : Nat} {v : Value}, TrAll P S vs xs → vs[i]? = some v → ∃ x, xs[i]? = some x ∧ TrIn P S v x
  | _, _, _, _, .nil, h => by simp at h
  | _, _, 0, _, .cons hx _, h => by simp at h; subst h; exact ⟨_, rfl, hx⟩
  | _, _, i + 1, _, .cons _ r, h => by simpa using r.at (i := i) (by simpa using h)
theorem TrIn.mono {P : World} {S S' : Led} (k : ∀ p ∈ S, p ∈ S') {v : Value} {x : Tr} (h : TrIn P S v x) : TrIn P S' v x :=
  TrIn.rec (motive_1 := fun v x _ => TrIn P S' v x) (motive_2 := fun vs xs _ => TrAll P S' vs xs) .none (fun b => .bool b) (fun i t => .int i t) (fun a b => .dec (k _ a) (k _ b)) (fun a b => .name (k _ a) (k _ b)) (fun a b => .string (k _ a) (k _ b)) (fun a b => .ref (k _ a) (k _ b))
    (fun a _ c r => .arr (k _ a) r c) (fun a z b _ d r => .dict (k _ a) z b r d) (fun a b c z d _ f r => .stream (k _ a) (k _ b) (k _ c) z d r f) .nil (fun _ _ a b => .cons a b) h
theorem TrAll.mono {P : World} {S S' : Led} (k : ∀ p ∈ S, p ∈ S') {vs : List Value} {xs : List Tr} (h : TrAll P S vs xs) : TrAll P S' vs xs :=
  TrAll.rec (motive_1 := fun v x _ => TrIn P S' v x) (motive_2 := fun vs xs _ => TrAll P S' vs xs) .none (fun b => .bool b) (fun i t => .int i t) (fun a b => .dec (k _ a) (k _ b)) (fun a b => .name (k _ a) (k _ b)) (fun a b => .string (k _ a) (k _ b)) (fun a b => .ref (k _ a) (k _ b))
    (fun a _ c r => .arr (k _ a) r c) (fun a z b _ d r => .dict (k _ a) z b r d) (fun a b c z d _ f r => .stream (k _ a) (k _ b) (k _ c) z d r f) .nil (fun _ _ a b => .cons a b) h

def kindS : Tr → String
  | .none => "null"
  | .bool _ => "truth"
  | .int _ => "int"
  | .dec _ _ => "real"
  | .name _ => "name"
  | .string _ _ => "string"
  | .arr _ => "array"
  | .dict _ _ => "dict"
  | .stream _ _ _ => "stream"
  | .ref _ _ => "ref"

/-- h' is h with tl made -/
def Made (h h' : Heap) (tl : Led) : Prop := (∀ b o, h.get? b = some o → h'.get? b = some o) ∧ ∀ p ∈ tl, h'.get? p.1 = some p.2 ∧ h.get? p.1 = none

def Stands (h : Heap) (S : Led) : Prop := ∀ p ∈ S, h.get? p.1 = some p.2

theorem stands_after {h g h2 : Heap} {L : Addr} {m : Str → Option Value} {S news : Led} (G : ∀ b o, h.get? b = some o → b ∉ S.map (·.1) → g.get? b = some o) (hS : Stands h S)
    (F : Fr g L h2 m) (N : News g L h2 news) (sub : ∀ p ∈ S, p ∈ news) : ∀ b o, h.get? b = some o → h2.get? b = some o := fun b o e => by
  by_cases hb : b ∈ S.map (·.1)
  · obtain ⟨p, hp, rfl⟩ := List.mem_map.mp hb
    have h1 := hS p hp
    rw [e] at h1
    cases h1
    exact (N p (sub p hp)).1
  · exact F.keep b o (G b o e hb)
theorem made_nil {h g h2 : Heap} {L : Addr} {m : Str → Option Value} {S news : Led} (G : ∀ b o, h.get? b = some o → b ∉ S.map (·.1) → g.get? b = some o) (hS : Stands h S)
    (F : Fr g L h2 m) (N : News g L h2 news) (sub : ∀ p ∈ S, p ∈ news) : Made h h2 [] := ⟨stands_after G hS F N sub, fun _ hp => nomatch hp⟩

theorem fresh_of {h g h2 : Heap} {L : Addr} {S news : Led} {d : Addr} {o : Obj} (G : ∀ b o, h.get? b = some o → b ∉ S.map (·.1) → g.get? b = some o)
    (N : News g L h2 news) (hm : (d, o) ∈ news) (hlt : ∀ p ∈ S, p.1 ≠ d) : h.get? d = none := by
  cases q : h.get? d with
  | none => rfl
  | some o2 =>
    have := G d o2 q fun hb => by
      obtain ⟨p, hp, e⟩ := List.mem_map.mp hb
      exact hlt p hp e
    rw [(N _ hm).2.2] at this; cases this
theorem made_one {h g h2 : Heap} {L : Addr} {m : Str → Option Value} {S news : Led} {d : Addr} {o : Obj} (G : ∀ b o, h.get? b = some o → b ∉ S.map (·.1) → g.get? b = some o) (hS : Stands h S)
    (F : Fr g L h2 m) (N : News g L h2 news) (sub : ∀ p ∈ S, p ∈ news) (hm : (d, o) ∈ news) (hlt : ∀ p ∈ S, p.1 < d) : Made h h2 [(d, o)] :=
  ⟨stands_after G hS F N sub, fun p hp => by
    rw [List.mem_singleton.mp hp]
    exact ⟨(N _ hm).1, fresh_of G N hm fun p hp => Nat.ne_of_lt (hlt p hp)⟩⟩
theorem made_of {h g h2 : Heap} {L : Addr} {m : Str → Option Value} {S news tl : Led} (G : ∀ b o, h.get? b = some o → b ∉ S.map (·.1) → g.get? b = some o) (hS : Stands h S)
    (F : Fr g L h2 m) (N : News g L h2 news) (sub : ∀ p ∈ S, p ∈ news) (hm : ∀ p ∈ tl, p ∈ news) (hne : ∀ q ∈ tl, ∀ p ∈ S, p.1 ≠ q.1) : Made h h2 tl :=
  ⟨stands_after G hS F N sub, fun p hp => ⟨(N _ (hm p hp)).1, fresh_of G N (hm p hp) (hne p hp)⟩⟩
theorem Made.ne {h h' : Heap} {S tl : Led} (M : Made h h' tl) (hS : Stands h S) : ∀ q ∈ tl, ∀ p ∈ S, p.1 ≠ q.1 := fun q hq p hp e => by
  have h1 := (M.2 q hq).2
  rw [← e, hS p hp] at h1; cases h1
theorem Made.fr {g h h' : Heap} {L : Addr} {m : Str → Option Value} {tl : Led} (M : Made h h' tl) (F : Fr g L h m) : Fr g L h' m := F.keeps M.1
theorem Made.news {g h h' : Heap} {L : Addr} {m : Str → Option Value} {S tl : Led} (M : Made h h' tl) (F : Fr g L h m) (N : News g L h S) : News g L h' (tl ++ S) := fun p hp => by
  rcases List.mem_append.mp hp with hp | hp
  · refine ⟨(M.2 p hp).1, fun e => ?_, ?_⟩
    · obtain ⟨_, _, _, ho, _⟩ := F.ns
      have := (M.2 p hp).2
      rw [e, ho] at this; cases this
    · cases q : g.get? p.1 with
      | none => rfl
      | some o => have := (M.2 p hp).2; rw [F.keep _ _ q] at this; cases this
  · exact ⟨M.1 _ _ (N p hp).1, (N p hp).2⟩
theorem stands_of {g h : Heap} {L : Addr} {S news : Led} (N : News g L h news) (sub : ∀ p ∈ S, p ∈ news) : Stands h S := fun p hp => (N p (sub p hp)).1
theorem foot_of {w : World} {g h : Heap} {L : Addr} {m : Str → Option Value} {S news : Led} (X : Foot w g) (F : Fr g L h m) (N : News g L h news) (sub : ∀ p ∈ S, p ∈ news) : Foot w (hideAll h (S.map (·.1))) :=
  X.keeps fun b o e => hideAll_get _ (F.keep b o e) fun hb => by
    obtain ⟨p, hp, q⟩ := List.mem_map.mp hb
    have := (N p (sub p hp)).2.2
    rw [q, e] at this; cases this

theorem looks_dict {M : Model} {prog : Program} {w : World} {g h : Heap} {L a : Addr} {o : Obj} {news : Led} {kvs : List (Str × Value)} (N : News g L h news) (hm : (a, o) ∈ news) (hd : o.IsDictOf (PySem.strKind prog w) kvs) : Looks M h (typeOf (.ref a)) (.type "dict") := by
  obtain ⟨es, ep, hc, _⟩ := hd
  have := (Looks.ld (M := M) (part := some headPart) (N.get hm)).andThen (f := fun o => pure o.cls) .now
  rw [← hc.1]; exact this
theorem subN {R : Led} : ∀ p ∈ ([] : Led), p ∈ R := fun _ h => nomatch h
theorem subA {a b R : Led} (h : ∀ p ∈ a, p ∈ R) (k : ∀ p ∈ b, p ∈ R) : ∀ p ∈ a ++ b, p ∈ R := fun p hp => (List.mem_append.mp hp).elim (h p) (k p)
theorem subC {x : Addr × Obj} {l R : Led} (h : x ∈ R) (k : ∀ p ∈ l, p ∈ R) : ∀ p ∈ x :: l, p ∈ R := fun p hp => (List.mem_cons.mp hp).elim (fun e => e ▸ h) (k p)
end
section
-- KC
/-- the end of an element's walk -/
def EltEnd (C : Addr) (led : Led) (J : List Value → Led → Prop) (ys : List Value) (s₄ : Shared) (y : Value) (s₅ : Shared) : Prop :=
  ∃ h' tk led' m', s₅ = { s₄ with heap := h', toks := tk } ∧ (∀ b o, b < C → b ∉ led.map (·.1) → s₄.heap.get? b = some o → h'.get? b = some o) ∧ h'.Ns C m' ∧ Stands h' led' ∧
    (∀ p ∈ led', p.1 ∈ led.map (·.1) ∨ (p.1 ≠ C ∧ (p.1 < C → s₄.heap.get? p.1 = none))) ∧ J (ys ++ [y]) led'

def DomOk (h : Heap) (led₀ led : Led) : Prop := ∀ p ∈ led, p.1 ∈ led₀.map (·.1) ∨ h.get? p.1 = none

section
variable {prog : Program} {w : World} {A : Around} {E : Value → Shared → Prop} {s : Shared} {env : Env}

theorem compLoop_inv {R : Result → Shared → Prop} {elt iter : Expr} {x : Str} {px : Pos} {ifs : List Expr} {scope : Scope} {pos : Pos} {I D : Addr} {fp wr : List Addr} {n : Nat} {P : Nat → Value → Prop} {St : Nat → Heap → Prop}
    {cenv : Env} {m : Str → Option Value} (W : Walks prog w A I fp wr n P St) (J : Nat → List Value → Led → Prop) {led₀ : Led} (X0 : List Addr) (hX : ∀ b ∈ X0, (∃ o, s.heap.get? b = some o) ∧ b < cenv.locals ∧ b ∉ wr ∧ b ∉ led₀.map (·.1) ∧ b ≠ D)
    (srcs : Led) (hsrc : ∀ i ys led, J i ys led → ∀ p ∈ srcs, p ∈ led)
    (hlive : ∀ i h, St i h → ∀ b ∈ wr, ∃ o, h.get? b = some o)
    (hx : cenv.kindOf x = some .local) (hp : (cenv.scope.kind == .class || (cenv.scope.kind == .module && cenv.locals != cenv.globals)) = false)
    (hDC : D < cenv.locals) (hDf : D ∉ fp) (hfC : ∀ b ∈ fp, b < cenv.locals) (htop : ∀ b o, s.heap.get? b = some o → b ≤ cenv.locals) (hfs : ∀ b ∈ fp, b ∈ wr ∨ b ∈ srcs.map (·.1) ∨ ((∃ o, s.heap.get? b = some o) ∧ b ∉ led₀.map (·.1)))
    (hst : St 0 s.heap) (hacc : s.heap.PlainList D #[]) (hn : s.heap.Ns cenv.locals m) (hJ : J 0 [] led₀) (hl : Stands s.heap led₀) (hoff : ∀ p ∈ led₀, p.1 ≠ D ∧ p.1 ≠ cenv.locals ∧ p.1 ∉ wr ∧ p.1 ∉ X0)
    (turn : ∀ i v ys led s₃ m₃ E', i < n → P i v → J i ys led → Stands s₃.heap led → (∀ p ∈ led, p.1 ≠ cenv.locals) → DomOk s.heap led₀ led → s₃.heap.Ns cenv.locals m₃ → m₃ x = some v → (∀ b o, b < cenv.locals → b ∉ wr → b ∉ led₀.map (·.1) → b ≠ D → s.heap.get? b = some o → s₃.heap.get? b = some o) →
      wpAny (model prog w) A (forIn ifs true fun c r => if r = true then do let ok ← isTrue c cenv (eval c cenv); pure (ForInStep.yield ok) else pure (ForInStep.yield r))
        (fun ok s₄ => (∃ tk, s₄ = { s₃ with toks := tk }) ∧ (ok = true → wpAny (model prog w) A (eval elt cenv) (EltEnd cenv.locals led (J (i + 1)) ys s₄) E' s₄) ∧ (ok = false → J (i + 1) ys led)) E' s₃)
    (hR : ∀ h' tk m' ys led, h'.Ns cenv.locals m' → h'.PlainList D ys.toArray → J n ys led → Stands h' led → (∀ p ∈ led, p.1 ≠ D ∧ p.1 ≠ cenv.locals ∧ p.1 ∉ wr ∧ p.1 ∉ X0) → DomOk s.heap led₀ led → ys.length ≤ n →
      (∀ b o, b < cenv.locals → b ∉ wr → b ∉ led₀.map (·.1) → b ≠ D → s.heap.get? b = some o → h'.get? b = some o) → R (.ok .next) { s with heap := h', toks := tk })
    (hsz : n ≤ sizeLine) :
    codeAny (model prog w) A (.compLoop (.ListComp elt [⟨.Name x px, iter, ifs, 0⟩] scope pos) 0 (.ref I) (.ref D) cenv) R s := by
  have hwC : ∀ b ∈ wr, b < cenv.locals := fun b hb => hfC b (W.sub _ hb)
  have hCw : cenv.locals ∉ wr := fun h => Nat.lt_irrefl _ (hwC _ h)
  have hDw : D ∉ wr := fun h => hDf (W.sub _ h)
  have hDne : D ≠ cenv.locals := Nat.ne_of_lt hDC
  refine codeAny_compLoop_tests
    (fun k s' => ∃ h' tk m' ys i led, s' = { s with heap := h', toks := tk } ∧ St i h' ∧ h'.PlainList D (List.toArray ys) ∧ h'.Ns cenv.locals m' ∧ J i ys led ∧ Stands h' led ∧
      (∀ p ∈ led, p.1 ≠ D ∧ p.1 ≠ cenv.locals ∧ p.1 ∉ wr ∧ p.1 ∉ X0) ∧ DomOk s.heap led₀ led ∧ ys.length ≤ i ∧ i ≤ n ∧ k = n + 1 - i ∧
      (∀ b o, b < cenv.locals → b ∉ wr → b ∉ led₀.map (·.1) → b ≠ D → s.heap.get? b = some o → h'.get? b = some o)) ?_ (n + 1)
    ⟨s.heap, s.toks, m, [], 0, led₀, rfl, hst, hacc, hn, hJ, hl, hoff, (fun p hp => .inl (List.mem_map_of_mem hp)), Nat.le_refl _, Nat.zero_le _, rfl, fun _ _ _ _ _ _ e => e⟩
  rintro k s' ⟨H, tk, m', ys, i, led, rfl, hst', hacc', hn', hJ', hl', hoff', hdom, hyi, hi, rfl, hk⟩
  by_cases hlt : i < n
  · refine W.item i _ _ _ hlt hst' fun v h₁ tk₁ hPv hst₁ hk₁ => ?_
    refine wpAny_assign_Name (wpAny_storeName_local hx (hn'.at' fun o e => hk₁ _ o hCw e) (fun h₂ hn₂ hs₂ => ?_) hp)
    have up₂ : ∀ b o, b ≠ cenv.locals → b ∉ wr → H.get? b = some o → h₂.get? b = some o := fun b o hbC hbf e => hs₂.extBut b o hbC (hk₁ b o hbf e)
    have hst₂ : St (i + 1) h₂ := W.frame _ _ _ hst₁ fun b hb o e => hs₂.extBut b o (Nat.ne_of_lt (hfC b hb)) e
    have hl₂ : Stands h₂ led := fun p hp => up₂ _ _ (hoff' p hp).2.1 (hoff' p hp).2.2.1 (hl' p hp)
    have kept₂ : ∀ b o, b < cenv.locals → b ∉ wr → b ∉ led₀.map (·.1) → b ≠ D → s.heap.get? b = some o → h₂.get? b = some o := fun b o hbC hbf hbW hbD e => up₂ b o (Nat.ne_of_lt hbC) hbf (hk b o hbC hbf hbW hbD e)
    refine wpAny_mono (turn i v ys led _ _ _ hlt hPv hJ' hl₂ (fun p hp => (hoff' p hp).2.1) hdom hn₂ (by simp) kept₂) (fun ok s₃ h₃ => ?_) fun _ _ e => e
    obtain ⟨⟨tk₃, rfl⟩, hyes, hno⟩ := h₃
    have hacc₃ : h₂.PlainList D (List.toArray ys) := hacc'.at fun o e => up₂ D o hDne hDw e
    cases ok with
    | false =>
      simp only [Bool.false_eq_true, if_false]
      exact ⟨n + 1 - (i + 1), by omega, h₂, tk₃, _, ys, i + 1, led, rfl, hst₂, hacc₃, hn₂, hno rfl, hl₂, hoff', hdom, Nat.le_succ_of_le hyi, hlt, rfl, kept₂⟩
    | true =>
      simp only [if_true]
      refine wpAny_mono (hyes rfl) (fun y s₄ h₄ => ?_) fun _ _ e => e
      obtain ⟨h₄, tk₄, led', m₄, rfl, hk₄, hn₄, hl₄, hnew, hJ₄⟩ := h₄
      dsimp only at hk₄ hnew
      have hDl : D ∉ led.map (·.1) := fun h => by obtain ⟨p, hp, e⟩ := List.mem_map.mp h; exact (hoff' p hp).1 e
      have hwl : ∀ b ∈ wr, b ∉ led.map (·.1) := fun b hb h => by obtain ⟨p, hp, e⟩ := List.mem_map.mp h; exact (hoff' p hp).2.2.1 (e ▸ hb)
      have hxl : ∀ b ∈ X0, b ∉ led.map (·.1) := fun b hb h => by obtain ⟨p, hp, e⟩ := List.mem_map.mp h; exact (hoff' p hp).2.2.2 (e ▸ hb)
      have hol : ∀ b o, s.heap.get? b = some o → b ∉ led₀.map (·.1) → b ∉ led.map (·.1) := fun b o e hb h => by
        obtain ⟨p, hp, q⟩ := List.mem_map.mp h
        rcases hdom p hp with h1 | h1
        · exact hb (q ▸ h1)
        · rw [q, e] at h1; cases h1
      have hys : (List.toArray ys).size ≤ sizeLine := by rw [List.size_toArray]; omega
      have hacc₄ : h₄.PlainList D (List.toArray ys) := hacc₃.at fun o e => hk₄ D o hDC hDl e
      have hst₄ : St (i + 1) h₄ := W.frame _ _ _ hst₂ fun b hb o e => by
        rcases hfs b hb with h | h | ⟨⟨o', ho'⟩, h⟩
        · exact hk₄ b o (hfC b hb) (hwl b h) e
        · obtain ⟨p, hp, rfl⟩ := List.mem_map.mp h
          have a2 := hl₂ p (hsrc _ _ _ hJ' p hp)
          rw [e] at a2
          cases a2
          exact hl₄ p (hsrc _ _ _ hJ₄ p hp)
        · exact hk₄ b o (hfC b hb) (hol b o' ho' h) e
      have hoff₄ : ∀ p ∈ led', p.1 ≠ D ∧ p.1 ≠ cenv.locals ∧ p.1 ∉ wr ∧ p.1 ∉ X0 := fun p hp => by
        rcases hnew p hp with h | ⟨h1, h2⟩
        · obtain ⟨q, hq, e⟩ := List.mem_map.mp h
          rw [← e]; exact hoff' q hq
        · refine ⟨fun e => ?_, h1, fun e => ?_, fun e => ?_⟩
          · obtain ⟨_, ho⟩ := hacc₃; have := h2 (e ▸ hDC); rw [e, ho] at this; cases this
          · obtain ⟨o, ho⟩ := hlive _ _ hst₂ _ e; have := h2 (hwC _ e); rw [ho] at this; cases this
          · obtain ⟨⟨o, ho⟩, x1, x2, x3, x4⟩ := hX _ e; have := h2 x1; rw [kept₂ _ o x1 x2 x3 x4 ho] at this; cases this
      have hdom₄ : DomOk s.heap led₀ led' := fun p hp => by
        rcases hnew p hp with h | ⟨h1, h2⟩
        · obtain ⟨q, hq, e⟩ := List.mem_map.mp h
          rw [← e]; exact hdom q hq
        · cases q : s.heap.get? p.1 with
          | none => exact .inr rfl
          | some o =>
            by_cases h3 : p.1 ∈ led₀.map (·.1)
            · exact .inl h3
            · have hlt : p.1 < cenv.locals := Nat.lt_of_le_of_ne (htop _ _ q) h1
              have := h2 hlt
              rw [kept₂ _ o hlt (hoff₄ p hp).2.2.1 h3 (hoff₄ p hp).1 q] at this; cases this
      refine wpAny_list_append_plain (hsz := hys) hacc₄ fun h₅ hl₅ hs₅ => ?_
      refine ⟨n + 1 - (i + 1), by omega, h₅, tk₄, _, ys ++ [y], i + 1, led', rfl, ?_, ?_, hn₄.sameBut hs₅ (Ne.symm hDne), hJ₄, ?_, hoff₄, hdom₄, ?_, hlt, rfl, ?_⟩
      · exact W.frame _ _ h₅ hst₄ fun b hb o e => hs₅.extBut b o (fun h => hDf (h ▸ hb)) e
      · simpa using hl₅
      · exact fun p hp => hs₅.extBut _ _ (hoff₄ p hp).1 (hl₄ p hp)
      · rw [List.length_append, List.length_singleton]; omega
      · exact fun b o hbC hbf hbW hbD e => hs₅.extBut b o hbD (hk₄ b o hbC (hol b o e hbW) (kept₂ b o hbC hbf hbW hbD e))
  · have e : i = n := Nat.le_antisymm hi (Nat.not_lt.mp hlt)
    subst e
    refine W.done _ _ _ hst' fun h₁ tk₁ hk₁ => ?_
    exact hR h₁ tk₁ m' ys led (hn'.at' fun o e => hk₁ _ o hCw e) (hacc'.at fun o e => hk₁ _ o hDw e) hJ' (fun p hp => hk₁ _ _ (hoff' p hp).2.2.1 (hl' p hp)) hoff' hdom hyi
      fun b o hbC hbf hbW hbD e => hk₁ b o hbf (hk b o hbC hbf hbW hbD e)

/-- the turns of a comprehension: what each must show -/
def CompTurns (prog : Program) (w : World) (A : Around) (env : Env) (scope : Scope) (cl : List (Str × Addr)) (x : Str) (ifs : List Expr) (elt : Expr) (wr : List Addr) (led₀ : Led) (n : Nat) (P : Nat → Value → Prop) (J : Nat → List Value → Led → Prop) (s₂ : Shared) : Prop :=
  ∀ C D i v ys led s₃ m₃ E', s₂.heap.objs.size ≤ C → s₂.heap.get? D = none → i < n → P i v → J i ys led → Stands s₃.heap led → (∀ p ∈ led, p.1 ≠ C) → (∀ p ∈ led, p.1 ∈ led₀.map (·.1) ∨ s₂.heap.get? p.1 = none) → s₃.heap.Ns C m₃ → m₃ x = some v →
      (∀ b o, b ∉ wr → b ∉ led₀.map (·.1) → s₂.heap.get? b = some o → s₃.heap.get? b = some o) →
      wpAny (model prog w) A (forIn ifs true fun c r => if r = true then do let ok ← isTrue c (compEnvC scope cl C env) (eval c (compEnvC scope cl C env)); pure (ForInStep.yield ok) else pure (ForInStep.yield r))
        (fun ok s₄ => (∃ tk, s₄ = { s₃ with toks := tk }) ∧ (ok = true → wpAny (model prog w) A (eval elt (compEnvC scope cl C env)) (EltEnd C led (J (i + 1)) ys s₄) E' s₄) ∧ (ok = false → J (i + 1) ys led)) E' s₃

theorem comp_block_inv {elt iter : Expr} {x : Str} {px : Pos} {ifs : List Expr} {scope : Scope} {cl : List (Str × Addr)} {pos : Pos} {s₂ : Shared} {I : Addr} {fp wr : List Addr} {n : Nat} {P : Nat → Value → Prop}
    {St : Nat → Heap → Prop} (W : Walks prog w A I fp wr n P St) (J : Nat → List Value → Led → Prop) {led₀ : Led} (X0 : List Addr) (hX : ∀ b ∈ X0, (∃ o, s₂.heap.get? b = some o) ∧ b ∉ wr ∧ b ∉ led₀.map (·.1))
    (srcs : Led) (hsrc : ∀ i ys led, J i ys led → ∀ p ∈ srcs, p ∈ led) {RR : Value → Addr → Result → Shared → Prop}
    (hlive : ∀ i h, St i h → ∀ b ∈ wr, ∃ o, h.get? b = some o) (hsz : n ≤ sizeLine)
    (hcell : ∀ y ∈ scope.names, y.2 ≠ .cell) (hkind : scope.kind = .function) (hx : scope.names.lookup x = some .local) (hst : St 0 s₂.heap) (hfp : ∀ b ∈ fp, b < s₂.heap.objs.size)
    (hfs : ∀ b ∈ fp, b ∈ wr ∨ b ∈ srcs.map (·.1) ∨ ((∃ o, s₂.heap.get? b = some o) ∧ b ∉ led₀.map (·.1))) (hJ : J 0 [] led₀) (hl : Stands s₂.heap led₀) (hoff : ∀ p ∈ led₀, p.1 ∉ wr ∧ p.1 ∉ X0)
    (turns : CompTurns prog w A env scope cl x ifs elt wr led₀ n P J s₂)
    (hRR : ∀ D C h' tk m' ys led, s₂.heap.get? D = none → s₂.heap.get? C = none → D ≠ C → h'.Ns C m' → h'.PlainList D (List.toArray ys) → J n ys led → Stands h' led → (∀ p ∈ led, p.1 ≠ D ∧ p.1 ≠ C ∧ p.1 ∉ X0) → DomOk s₂.heap led₀ led → ys.length ≤ n →
      (∀ b o, b ∉ wr → b ∉ led₀.map (·.1) → s₂.heap.get? b = some o → h'.get? b = some o) → RR (.ref D) C (.ok .next) { s₂ with heap := h', toks := tk }) :
    wpAny (model prog w) A (newList []) (fun acc s₃ => wpAny (model prog w) A (newFunctionEnv scope env.globals cl [] env.qual none .none (some env)) (fun cenv s₄ =>
      codeAny (model prog w) A (.compStart (.ListComp elt [⟨.Name x px, iter, ifs, 0⟩] scope pos) 0 (.ref I) acc { cenv with scope := relabel scope env }) (RR acc cenv.locals) s₄) E s₃) E s₂ := by
  refine wpAny_newObj_type (wpAny_newFunctionEnv hcell (by intro y hy; simp at hy) (fun h₁ hns₁ hsb₁ => ?_) hkind)
  dsimp only at hns₁ hsb₁ ⊢
  generalize hH2 : s₂.heap.push { cls := .type "list", dict := none, data := .seq ([] : List Value).toArray } = H2 at hns₁ hsb₁ ⊢
  have hC : H2.objs.size = s₂.heap.objs.size + 1 := by rw [← hH2, Heap.size_push]
  have hDC : s₂.heap.objs.size < H2.objs.size := by rw [hC]; exact Nat.lt_succ_self _
  have below : ∀ b, b < s₂.heap.objs.size → b ≠ H2.objs.size ∧ b ≠ s₂.heap.objs.size := fun b hb => ⟨by rw [hC]; exact Nat.ne_of_lt (Nat.lt_succ_of_lt hb), Nat.ne_of_lt hb⟩
  have belowC : ∀ b, b < s₂.heap.objs.size → b < H2.objs.size := fun b hb => Nat.lt_trans hb hDC
  have hDf : s₂.heap.objs.size ∉ fp := fun hm => Nat.lt_irrefl _ (hfp _ hm)
  have old : ∀ b o, s₂.heap.get? b = some o → h₁.get? b = some o := fun b o e => hsb₁.extBut b o (below b (Heap.lt_size e)).1 (Heap.get?_push_of_some _ (hH2 ▸ Heap.get?_push_of_some _ e))
  have hacc : h₁.PlainList s₂.heap.objs.size #[] := ⟨_, hsb₁.extBut _ _ (Nat.ne_of_lt hDC) (Heap.get?_push_of_some _ (hH2 ▸ Heap.get?_push_size _ rfl))⟩
  have hst₁ : St 0 h₁ := W.frame _ _ _ hst fun b _ o e => old b o e
  have fresh : ∀ a, s₂.heap.objs.size ≤ a → s₂.heap.get? a = none := fun a ha => by
    cases e : s₂.heap.get? a with
    | none => rfl
    | some o' => exact absurd (Heap.lt_size e) (Nat.not_lt.mpr ha)
  have htop : ∀ b o, h₁.get? b = some o → b ≤ H2.objs.size := fun b o e => by
    by_cases hb : b = H2.objs.size
    · exact Nat.le_of_eq hb
    · have h1 := (hsb₁.2 b hb).symm.trans e
      have h2 := Heap.lt_size h1
      rw [Heap.size_push] at h2
      exact Nat.le_of_lt_succ h2
  have dom₂ : ∀ led : Led, DomOk h₁ led₀ led → ∀ p ∈ led, p.1 ∈ led₀.map (·.1) ∨ s₂.heap.get? p.1 = none := fun led hd p hp => (hd p hp).imp id fun h => by
    cases q : s₂.heap.get? p.1 with
    | none => rfl
    | some o => rw [old _ _ q] at h; cases h
  have loop : ∀ s₃ : Shared, s₃ = { s₂ with heap := h₁, toks := s₂.toks + ([] : List (Str × Value)).length } →
      codeAny (model prog w) A (.compLoop (.ListComp elt [⟨.Name x px, iter, ifs, 0⟩] scope pos) 0 (.ref I) (.ref s₂.heap.objs.size) (compEnvC scope cl H2.objs.size env))
        (RR (.ref s₂.heap.objs.size) H2.objs.size) s₃ := by
    rintro s₃ rfl
    refine compLoop_inv (hsz := hsz) (cenv := compEnvC scope cl H2.objs.size env) W J X0 (fun b hb => let ⟨⟨o, ho⟩, x1, x2⟩ := hX b hb; ⟨⟨o, old b o ho⟩, belowC b (Heap.lt_size ho), x1, x2, (below b (Heap.lt_size ho)).2⟩) srcs hsrc hlive (lookup_relabel_local hx) (by simp [compEnvC, relabel, hkind]) hDC hDf (fun b hb => belowC b (hfp b hb)) htop
      (fun b hb => (hfs b hb).imp id fun h => h.imp id fun ⟨⟨o, ho⟩, h⟩ => ⟨⟨o, old b o ho⟩, h⟩) hst₁ hacc hns₁ hJ (fun p hp => old _ _ (hl p hp))
      (fun p hp => ⟨(below _ (Heap.lt_size (hl p hp))).2, (below _ (Heap.lt_size (hl p hp))).1, (hoff p hp).1, (hoff p hp).2⟩) ?_ ?_
    · intro i v ys led s₃ m₃ E' hi hP hJ' hl' ho' hd' hn' hm' hk'
      exact turns _ s₂.heap.objs.size i v ys led s₃ m₃ E' (by show s₂.heap.objs.size ≤ H2.objs.size; exact Nat.le_of_lt hDC) (fresh _ (Nat.le_refl _)) hi hP hJ' hl' ho' (dom₂ led hd') hn' hm'
        fun b o hbf hbW e => hk' b o (belowC b (Heap.lt_size e)) hbf hbW (below b (Heap.lt_size e)).2 (old b o e)
    · intro h' tk m' ys led hn' ha hJ' hl' ho' hd' hy hk
      exact hRR _ _ h' tk m' ys led (fresh _ (Nat.le_refl _)) (fresh _ (Nat.le_of_lt hDC)) (Nat.ne_of_lt hDC) hn' ha hJ' hl' (fun p hp => ⟨(ho' p hp).1, (ho' p hp).2.1, (ho' p hp).2.2.2⟩) (dom₂ led hd') hy
        fun b o hbf hbW e => hk b o (belowC b (Heap.lt_size e)) hbf hbW (below b (Heap.lt_size e)).2 (old b o e)
  exact codeAny_compStart_list (loop _ rfl) (W.self 0 _ _ _ hst₁ (loop _ rfl))

/-- what a comprehension hands on: the goal behind the iterator -/
def CompGoal (prog : Program) (w : World) (A : Around) (env : Env) (scope : Scope) (cl : List (Str × Addr)) (x : Str) (ifs : List Expr) (elt : Expr) (it : Value) (s₂ : Shared) (X0 : List Addr) (K : Addr → Heap → Nat → Prop) : Prop :=
  ∃ I fp wr n P St J, ∃ led₀ srcs : Led, it = .ref I ∧ Walks prog w A I fp wr n P St ∧ (∀ i h, St i h → ∀ b ∈ wr, ∃ o, h.get? b = some o) ∧ n ≤ sizeLine ∧ St 0 s₂.heap ∧ (∀ b ∈ fp, b < s₂.heap.objs.size) ∧
    (∀ b ∈ fp, b ∈ wr ∨ b ∈ srcs.map (·.1) ∨ ((∃ o, s₂.heap.get? b = some o) ∧ b ∉ led₀.map (·.1))) ∧ (∀ i ys led, J i ys led → ∀ p ∈ srcs, p ∈ led) ∧
    (∀ b ∈ X0, (∃ o, s₂.heap.get? b = some o) ∧ b ∉ wr ∧ b ∉ led₀.map (·.1)) ∧
    J 0 [] led₀ ∧ Stands s₂.heap led₀ ∧ (∀ p ∈ led₀, p.1 ∉ wr ∧ p.1 ∉ X0) ∧ CompTurns prog w A env scope cl x ifs elt wr led₀ n P J s₂ ∧
    (∀ D h' tk ys led, s₂.heap.get? D = none → h'.PlainList D (List.toArray ys) → J n ys led → Stands h' led → (∀ p ∈ led, p.1 ≠ D ∧ p.1 ∉ X0) → DomOk s₂.heap led₀ led → ys.length ≤ n → (∀ b o, b ∉ X0 → b ∉ wr → b ∉ led₀.map (·.1) → s₂.heap.get? b = some o → h'.get? b = some o) → K D h' tk)

theorem ListComp_inv {elt iter : Expr} {x : Str} {px : Pos} {ifs : List Expr} {scope : Scope} {cl : List (Str × Addr)} {pos : Pos} {Q : Value → Shared → Prop}
    (hclos : closureFor scope env = pure cl) (hcell : ∀ y ∈ scope.names, y.2 ≠ .cell) (hkind : scope.kind = .function)
    (hnames : ∀ y ∈ scope.names, y.2 = .local → scope.names.lookup y.1 = some .local) (hx : scope.names.lookup x = some .local)
    (hs : ∀ x, foldedSetIterable iter env x = pure x)
    (h : wpAny (model prog w) A (eval iter env) (fun xv s₁ => wpAny (model prog w) A (pyIter xv) (fun it s₂ => CompGoal prog w A env scope cl x ifs elt it s₂ [] fun D h' tk => Q (.ref D) { s₂ with heap := h', toks := tk }) E s₁) E s) :
    wpAny (model prog w) A (eval (.ListComp elt [⟨.Name x px, iter, ifs, 0⟩] scope pos) env) Q E s := by
  rw [eval_ListComp]
  refine wpAny_comprehension_free (use := none) rfl hs hclos hkind hnames (wpAny_mono h (fun xv s₁ h₁ => wpAny_mono h₁ (fun it s₂ h₂ => ?_) fun _ _ e => e) fun _ _ e => e)
  obtain ⟨I, fp, wr, n, P, St, J, led₀, srcs, rfl, W, hlive, hsz, hst, hfp, hfs, hsrc, hX, hJ, hl, hoff, turns, hQ⟩ := h₂
  refine comp_block_inv (RR := fun acc C => compPost (model prog w) A E none Q acc C) W J [] hX srcs hsrc hlive hsz hcell hkind hx hst hfp hfs hJ hl hoff turns ?_
  intro D C h' tk m' ys led hD hC hDC hn hpl hJ' hl' ho' hd hy hk
  refine ⟨m', hn, fun h'' hs'' => hQ D h'' tk ys led hD (hpl.extBut hs''.extBut hDC) hJ' (fun p hp => hs''.extBut _ _ (ho' p hp).2.1 (hl' p hp)) (fun p hp => ⟨(ho' p hp).1, List.not_mem_nil⟩) hd hy (fun b o _ hbf hbW e => hs''.extBut b o (by rintro rfl; rw [hC] at e; cases e) (hk b o hbf hbW e))⟩

theorem Assign_ListComp_inv {elt iter : Expr} {x y : Str} {px py : Pos} {ifs : List Expr} {scope : Scope} {cl : List (Str × Addr)} {pos spos : Pos} {Q : Flow → Shared → Prop}
    (hsw : swapsWith (.ListComp elt [⟨.Name x px, iter, ifs, 0⟩] scope pos) (some (.Name y py)) spos.line env = pure true)
    (hclos : closureFor scope env = pure cl) (hcell : ∀ z ∈ scope.names, z.2 ≠ .cell) (hkind : scope.kind = .function)
    (hnames : ∀ z ∈ scope.names, z.2 = .local → scope.names.lookup z.1 = some .local) (hx : scope.names.lookup x = some .local)
    (hs : ∀ x, foldedSetIterable iter env x = pure x)
    (hy : env.kindOf y = some .local) (hp : (env.scope.kind == .class || (env.scope.kind == .module && env.locals != env.globals)) = false)
    (h : wpAny (model prog w) A (eval iter env) (fun xv s₁ => wpAny (model prog w) A (pyIter xv) (fun it s₂ => ∃ m, s₂.heap.Ns env.locals m ∧ CompGoal prog w A env scope cl x ifs elt it s₂ [env.locals] fun D h' tk => h'.Ns env.locals (fun z => if z = y then some (.ref D) else m z) → Q .next { s₂ with heap := h', toks := tk }) E s₁) E s) :
    wpAny (model prog w) A (exec (.Assign [.Name y py] (.ListComp elt [⟨.Name x px, iter, ifs, 0⟩] scope pos) spos) env) Q E s := by
  rw [exec_Assign_Name_used _ _ _ _ hsw]
  refine wpAny_bind (wpAny_standAt (wpAny_bind ?_))
  show wpAny _ A (do let _ ← comprehension (.ListComp elt [⟨.Name x px, iter, ifs, 0⟩] scope pos) scope env _ (newList []) false (eval iter env) (some (assign (.Name y py) env))) _ _ s
  refine wpAny_bind (wpAny_mono (wpAny_comprehension_free (use := some (assign (.Name y py) env)) (Q := fun _ s' => Q .next s') rfl hs hclos hkind hnames
    (wpAny_mono h (fun xv s₁ h₁ => wpAny_mono h₁ (fun it s₂ h₂ => ?_) fun _ _ e => e) fun _ _ e => e)) (fun _ s' hq => wpAny_pure (wpAny_pure hq)) fun _ _ e => e)
  obtain ⟨m, hn, I, fp, wr, n, P, St, J, led₀, srcs, rfl, W, hlive, hsz, hst, hfp, hfs, hsrc, hX, hJ, hl, hoff, turns, hQ⟩ := h₂
  refine comp_block_inv (RR := fun acc C => compPost (model prog w) A E (some (assign (.Name y py) env)) (fun _ s' => Q .next s') acc C) W J [env.locals] hX srcs hsrc hlive hsz hcell hkind hx hst hfp hfs hJ hl hoff turns ?_
  intro D C h' tk m' ys led hD hC hDC hnC hpl hJ' hl' ho' hd hyl hk
  have hLw := (hX _ (.head _)).2
  have hLC : env.locals ≠ C := by rintro rfl; obtain ⟨o, _, _, ho, _⟩ := hn; rw [hC] at ho; cases ho
  have hLD : env.locals ≠ D := by rintro rfl; obtain ⟨o, _, _, ho, _⟩ := hn; rw [hD] at ho; cases ho
  show wpAny _ A (assign (.Name y py) env (.ref D)) _ _ _
  refine wpAny_assign_Name (wpAny_storeName_local hy (hn.at' fun o e => hk _ o hLw.1 hLw.2 e) (fun h₂ hn₂ hs₂ => ?_) hp)
  refine ⟨m', hnC.sameBut hs₂ (Ne.symm hLC), fun h₃ hs₃ => ?_⟩
  refine hQ D h₃ _ ys led hD ((hpl.extBut hs₂.extBut (Ne.symm hLD)).extBut hs₃.extBut hDC) hJ' (fun p hp => hs₃.extBut _ _ (ho' p hp).2.1 (hs₂.extBut _ _ (fun e => (ho' p hp).2.2 (by rw [e]; exact .head _)) (hl' p hp))) (fun p hp => ⟨(ho' p hp).1, (ho' p hp).2.2⟩) hd hyl ?_ (hn₂.sameBut hs₃ hLC)
  intro b o hbL hbf hbW e
  exact hs₃.extBut b o (by rintro rfl; rw [hC] at e; cases e) (hs₂.extBut b o (fun q => hbL (by rw [q]; exact .head _)) (hk b o hbf hbW e))
end

def cutAt (h : Heap) (C : Nat) : Heap := ⟨h.objs.extract 0 C, h.life⟩
theorem cut_get {h : Heap} {C b : Nat} (hb : b < C) : (cutAt h C).get? b = h.get? b := by
  have e : (h.objs.extract 0 C)[b]? = h.objs[b]? := by
    rw [Array.getElem?_extract]
    by_cases h1 : b < min C h.objs.size - 0
    · rw [if_pos h1, Nat.zero_add]
    · rw [if_neg h1]
      exact (Array.getElem?_eq_none (by omega)).symm
  show (match (h.objs.extract 0 C)[b]? with | some ⟨_, _, .freed, _⟩ => none | o => o) = match h.objs[b]? with | some ⟨_, _, .freed, _⟩ => none | o => o
  rw [e]
theorem cut_size {h : Heap} {C : Nat} : (cutAt h C).objs.size ≤ C := by
  show (h.objs.extract 0 C).size ≤ C
  rw [Array.size_extract]; omega
theorem cut_some {h : Heap} {C b : Nat} {o : Obj} (e : (cutAt h C).get? b = some o) : b < C ∧ h.get? b = some o := by
  have hb : b < C := Nat.lt_of_lt_of_le (Heap.lt_size e) cut_size
  exact ⟨hb, (cut_get hb).symm.trans e⟩

section
variable {prog : Program} {w : World} {A : Around} {E : Value → Shared → Prop} {s : Shared} {env : Env} {g : Heap} {m : Str → Option Value}

/-- an iterated value: n items, each with P, the objects `src` looked at -/
def Src (prog : Program) (w : World) (A : Around) (xv : Value) (src : List Addr) (n : Nat) (P : Nat → Value → Prop) (s₁ : Shared) : Prop :=
  ∀ (Q E : Value → Shared → Prop), (∀ I fp wr St h₂ tk₂, Walks prog w A I fp wr n P St → (∀ i h, St i h → ∀ b ∈ wr, ∃ o, h.get? b = some o) → St 0 h₂ → (∀ b ∈ fp, b < h₂.objs.size) → (∀ b ∈ fp, b ∈ src ∨ b ∈ wr) → (∀ b ∈ wr, s₁.heap.get? b = none) →
    (∀ b o, s₁.heap.get? b = some o → h₂.get? b = some o) → Q (.ref I) { s₁ with heap := h₂, toks := tk₂ }) → wpAny (model prog w) A (pyIter xv) Q E s₁

theorem fresh_top (h : Heap) : h.get? h.objs.size = none := by
  cases e : h.get? h.objs.size with
  | none => rfl
  | some o' => exact absurd (Heap.lt_size e) (Nat.lt_irrefl _)

theorem src_list {ax : Addr} {vs : List Value} (hh : A.handled = none) (hl : s.heap.IsList ax vs.toArray) : Src prog w A (.ref ax) [ax] vs.length (fun i v => vs[i]? = some v) s := by
  intro Q E h
  have hlt : ax < s.heap.objs.size := by obtain ⟨_, e, _⟩ := hl; exact Heap.lt_size e
  refine wpAny_pyIter_list hl ?_
  have W := Walks.list (prog := prog) (w := w) hh s.heap.objs.size ax (Nat.ne_of_lt hlt) vs.toArray
  have e1 : vs.toArray.size = vs.length := by simp
  rw [e1] at W
  refine h s.heap.objs.size _ _ _ _ s.toks ⟨W.sub, W.frame, fun i s Q E hi st hQ => W.item i s Q E hi st fun v h' tk hP => hQ v h' tk (by simpa using hP), W.done, W.self⟩ (fun i h st b hb => ?_) ⟨⟨_, Heap.get?_push_size _ rfl, rfl, rfl⟩, hl.push _⟩ (fun b hb => ?_) (fun b hb => ?_) (fun b hb => ?_) (fun b o e => Heap.get?_push_of_some _ e)
  · rw [List.mem_singleton.mp hb]; obtain ⟨o, ho, _⟩ := st.1; exact ⟨o, ho⟩
  · show b < (s.heap.push _).objs.size
    rw [Heap.size_push]
    rcases List.mem_cons.mp hb with rfl | hb
    · exact Nat.lt_succ_self _
    · rw [List.mem_singleton.mp hb]; exact Nat.lt_succ_of_lt hlt
  · rcases List.mem_cons.mp hb with rfl | hb
    · exact .inr (.head _)
    · exact .inl hb
  · rw [List.mem_singleton.mp hb]; exact fresh_top _

/-- the end of an element -/
def EltK (g₃ : Heap) (C : Addr) (J : List Value → Led → Prop) (ys : List Value) (s₄ : Shared) (y : Value) (s₅ : Shared) : Prop :=
  ∃ h' tk led' m', s₅ = { s₄ with heap := h', toks := tk } ∧ Fr g₃ C h' m' ∧ News g₃ C h' led' ∧ J (ys ++ [y]) led'

def TurnsK (prog : Program) (w : World) (A : Around) (env : Env) (scope : Scope) (cl : List (Str × Addr)) (x : Str) (ifs : List Expr) (elt : Expr) (n : Nat) (P : Nat → Value → Prop) (J : Nat → List Value → Led → Prop) : Prop :=
    ∀ C i v ys led s₃ m₃ g₃ E', i < n → P i v → J i ys led → Foot w g₃ → Fr g₃ C s₃.heap m₃ → News g₃ C s₃.heap led → m₃ x = some v →
      wpAny (model prog w) A (forIn ifs true fun c r => if r = true then do let ok ← isTrue c (compEnvC scope cl C env) (eval c (compEnvC scope cl C env)); pure (ForInStep.yield ok) else pure (ForInStep.yield r))
        (fun ok s₄ => (∃ tk, s₄ = { s₃ with toks := tk }) ∧ (ok = true → wpAny (model prog w) A (eval elt (compEnvC scope cl C env)) (EltK g₃ C (J (i + 1)) ys s₄) E' s₄) ∧ (ok = false → J (i + 1) ys led)) E' s₃

/-- a comprehension over a frame -/
def CompK (prog : Program) (w : World) (A : Around) (env : Env) (scope : Scope) (cl : List (Str × Addr)) (x : Str) (ifs : List Expr) (elt : Expr) (g : Heap) (m : Str → Option Value) (mm : Addr → Str → Option Value) (xv : Value) (s₁ : Shared) (K : Addr → Heap → Nat → Prop) : Prop :=
  ∃ (srcs : Led) (src : List Addr) (n : Nat) (P : Nat → Value → Prop) (J : Nat → List Value → Led → Prop) (news : Led), Src prog w A xv src n P s₁ ∧ n ≤ sizeLine ∧ Foot w g ∧ Fr g env.locals s₁.heap m ∧ News g env.locals s₁.heap news ∧
    (∀ b ∈ src, b ∈ srcs.map (·.1) ∨ ∃ o, g.get? b = some o) ∧ (∀ i ys led, J i ys led → ∀ p ∈ srcs, p ∈ led) ∧ J 0 [] news ∧
    TurnsK prog w A env scope cl x ifs elt n P J ∧
    (∀ D h' tk ys led e, Fr g env.locals h' (mm D) → News g env.locals h' ((D, listOf (List.toArray ys) e) :: led) → (∀ p ∈ led, p.1 ≠ D) → s₁.heap.get? D = none → DomOk s₁.heap news led → J n ys led → ys.length ≤ n → K D h' tk)

theorem turns_of {scope : Scope} {cl : List (Str × Addr)} {x : Str} {ifs : List Expr} {elt : Expr} {news : Led} {n : Nat} {P : Nat → Value → Prop} {J : Nat → List Value → Led → Prop} {L : Addr} {wr : List Addr} {h₂ : Heap} {tk₂ : Nat}
    (X : Foot w g) (F : Fr g L s.heap m) (N : News g L s.heap news) (T : TurnsK prog w A env scope cl x ifs elt n P J) (hwr : ∀ b ∈ wr, s.heap.get? b = none) (up : ∀ b o, s.heap.get? b = some o → h₂.get? b = some o) :
    CompTurns prog w A env scope cl x ifs elt wr news n P J { s with heap := h₂, toks := tk₂ } := by
  intro C D i v ys led s₃ m₃ E' hC hD hi hP hJ hl ho hdom hn hm hk
  have gn : ∀ b o, g.get? b = some o → b ∉ news.map (·.1) := fun b o e h => by
    obtain ⟨p, hp, q⟩ := List.mem_map.mp h
    have := (N p hp).2.2; rw [q, e] at this; cases this
  have gs : ∀ b o, g.get? b = some o → s₃.heap.get? b = some o := fun b o e => hk b o (fun q => by have := hwr b q; rw [F.keep _ _ e] at this; cases this) (gn b o e) (up _ _ (F.keep _ _ e))
  have gl : ∀ b o, g.get? b = some o → b ∉ led.map (·.1) := fun b o e h => by
    obtain ⟨p, hp, q⟩ := List.mem_map.mp h
    rcases hdom p hp with h1 | h1
    · exact gn b o e (q ▸ h1)
    · rw [q, up _ _ (F.keep _ _ e)] at h1; cases h1
  have gC : ∀ b o, g.get? b = some o → b < C := fun b o e => Nat.lt_of_lt_of_le (Heap.lt_size (up _ _ (F.keep _ _ e))) hC
  have X₃ : Foot w (hideAll (cutAt s₃.heap C) (led.map (·.1))) := X.keeps fun b o e => hideAll_get _ ((cut_get (gC b o e)).trans (gs b o e)) (gl b o e)
  have F₃ : Fr (hideAll (cutAt s₃.heap C) (led.map (·.1))) C s₃.heap m₃ := ⟨hn, fun b o e => (cut_some (of_hideAll _ e)).2, by rw [hideAll_size]; exact cut_size⟩
  have N₃ : News (hideAll (cutAt s₃.heap C) (led.map (·.1))) C s₃.heap led := fun p hp => ⟨hl p hp, ho p hp, hideAll_none _ (List.mem_map_of_mem hp)⟩
  refine wpAny_mono (T C i v ys led s₃ m₃ _ E' hi hP hJ X₃ F₃ N₃ hm) (fun ok s₄ h₄ => ?_) fun _ _ e => e
  obtain ⟨⟨tk₄, rfl⟩, hy, hno⟩ := h₄
  refine ⟨⟨tk₄, rfl⟩, fun e => wpAny_mono (hy e) (fun y s₅ h₅ => ?_) fun _ _ e => e, hno⟩
  obtain ⟨h', tk, led', m', rfl, F', N', hJ'⟩ := h₅
  refine ⟨h', tk, led', m', rfl, fun b o hb hbl e => F'.keep b o (hideAll_get _ ((cut_get hb).trans e) hbl), F'.ns, fun p hp => (N' p hp).1, fun p hp => ?_, hJ'⟩
  by_cases hpl : p.1 ∈ led.map (·.1)
  · exact .inl hpl
  · refine .inr ⟨(N' p hp).2.1, fun hlt => ?_⟩
    cases q : s₃.heap.get? p.1 with
    | none => rfl
    | some o => have := (N' p hp).2.2; rw [hideAll_get _ ((cut_get hlt).trans q) hpl] at this; cases this

theorem ListComp_F {elt iter : Expr} {x : Str} {px : Pos} {ifs : List Expr} {scope : Scope} {cl : List (Str × Addr)} {pos : Pos} {Q : Value → Shared → Prop}
    (_F : Fr g env.locals s.heap m)
    (hclos : closureFor scope env = pure cl) (hcell : ∀ y ∈ scope.names, y.2 ≠ .cell) (hkind : scope.kind = .function)
    (hnames : ∀ y ∈ scope.names, y.2 = .local → scope.names.lookup y.1 = some .local) (hx : scope.names.lookup x = some .local)
    (hs : ∀ x, foldedSetIterable iter env x = pure x)
    (h : wpAny (model prog w) A (eval iter env) (fun xv s₁ => CompK prog w A env scope cl x ifs elt g m (fun _ => m) xv s₁ fun D h' tk => Q (.ref D) { s₁ with heap := h', toks := tk }) E s) :
    wpAny (model prog w) A (eval (.ListComp elt [⟨.Name x px, iter, ifs, 0⟩] scope pos) env) Q E s := by
  refine ListComp_inv hclos hcell hkind hnames hx hs (wpAny_mono h (fun xv s₁ h₁ => ?_) fun _ _ e => e)
  obtain ⟨srcs, src, n, P, J, news, hsrc, hsz, X, F, N, hss, hJs, hJ, T, hQ⟩ := h₁
  refine hsrc _ _ fun I fp wr St h₂ tk₂ W hlive hst hfp hfs hwr up => ?_
  have gn : ∀ b o, g.get? b = some o → b ∉ news.map (·.1) := fun b o e h => by
    obtain ⟨p, hp, q⟩ := List.mem_map.mp h
    have := (N p hp).2.2; rw [q, e] at this; cases this
  refine ⟨I, fp, wr, n, P, St, J, news, srcs, rfl, W, hlive, hsz, hst, hfp, fun b hb => ?_, hJs, fun _ h => (nomatch h), hJ, fun p hp => up _ _ (N p hp).1, fun p hp => ⟨fun q => ?_, List.not_mem_nil⟩, turns_of X F N T hwr up, ?_⟩
  · rcases hfs b hb with h | h
    · rcases hss b h with h | ⟨o, h⟩
      · exact .inr (.inl h)
      · exact .inr (.inr ⟨⟨o, up _ _ (F.keep _ _ h)⟩, gn b o h⟩)
    · exact .inl h
  · have := hwr _ q; rw [(N p hp).1] at this; cases this
  · rintro D h' tk ys led hD ⟨e, hpl⟩ hJ' hl ho hdom hy hk
    have hD₁ : s₁.heap.get? D = none := by
      cases q : s₁.heap.get? D with
      | none => rfl
      | some o => dsimp only at hD; rw [up _ _ q] at hD; cases hD
    have hdom₁ : DomOk s₁.heap news led := fun p hp => (hdom p hp).imp id fun h => by
      cases q : s₁.heap.get? p.1 with
      | none => rfl
      | some o => dsimp only at h; rw [up _ _ q] at h; cases h
    obtain ⟨oL, es, ep, hL, r⟩ := id F.ns
    have Ln : env.locals ∉ news.map (·.1) := fun h => by obtain ⟨p, hp, q⟩ := List.mem_map.mp h; exact (N p hp).2.1 q
    have k' : ∀ b o, b ∉ news.map (·.1) → s₁.heap.get? b = some o → h'.get? b = some o := fun b o hb e => hk b o List.not_mem_nil (fun q => by have := hwr b q; rw [e] at this; cases this) hb (up b o e)
    refine hQ D h' tk ys led e ⟨⟨oL, es, ep, k' _ _ Ln hL, r⟩, fun b o e => k' b o (gn b o e) (F.keep b o e), F.above⟩ ?_ (fun p hp => (ho p hp).1) hD₁ hdom₁ hJ' hy
    intro p hp
    rcases List.mem_cons.mp hp with rfl | hp
    · refine ⟨hpl, (fun (q : D = env.locals) => by rw [q, hL] at hD₁; cases hD₁), ?_⟩
      cases q : g.get? D with
      | none => rfl
      | some o => rw [F.keep _ _ q] at hD₁; cases hD₁
    · refine ⟨hl p hp, fun q => ?_, ?_⟩
      · rcases hdom₁ p hp with h | h
        · exact Ln (q ▸ h)
        · rw [q, hL] at h; cases h
      · cases q : g.get? p.1 with
        | none => rfl
        | some o =>
          rcases hdom₁ p hp with h | h
          · exact absurd h (gn _ _ q)
          · rw [F.keep _ _ q] at h; cases h

theorem Assign_ListComp_F {elt iter : Expr} {x y : Str} {px py : Pos} {ifs : List Expr} {scope : Scope} {cl : List (Str × Addr)} {pos spos : Pos} {Q : Flow → Shared → Prop}
    (_F : Fr g env.locals s.heap m)
    (hsw : swapsWith (.ListComp elt [⟨.Name x px, iter, ifs, 0⟩] scope pos) (some (.Name y py)) spos.line env = pure true)
    (hclos : closureFor scope env = pure cl) (hcell : ∀ z ∈ scope.names, z.2 ≠ .cell) (hkind : scope.kind = .function)
    (hnames : ∀ z ∈ scope.names, z.2 = .local → scope.names.lookup z.1 = some .local) (hx : scope.names.lookup x = some .local)
    (hs : ∀ x, foldedSetIterable iter env x = pure x)
    (hy : env.kindOf y = some .local) (hp : (env.scope.kind == .class || (env.scope.kind == .module && env.locals != env.globals)) = false)
    (h : wpAny (model prog w) A (eval iter env) (fun xv s₁ => CompK prog w A env scope cl x ifs elt g m (fun D z => if z = y then some (.ref D) else m z) xv s₁ fun D h' tk => Q .next { s₁ with heap := h', toks := tk }) E s) :
    wpAny (model prog w) A (exec (.Assign [.Name y py] (.ListComp elt [⟨.Name x px, iter, ifs, 0⟩] scope pos) spos) env) Q E s := by
  refine Assign_ListComp_inv hsw hclos hcell hkind hnames hx hs hy hp (wpAny_mono h (fun xv s₁ h₁ => ?_) fun _ _ e => e)
  obtain ⟨srcs, src, n, P, J, news, hsrc, hsz, X, F, N, hss, hJs, hJ, T, hQ⟩ := h₁
  refine hsrc _ _ fun I fp wr St h₂ tk₂ W hlive hst hfp hfs hwr up => ?_
  have gn : ∀ b o, g.get? b = some o → b ∉ news.map (·.1) := fun b o e h => by
    obtain ⟨p, hp, q⟩ := List.mem_map.mp h
    have := (N p hp).2.2; rw [q, e] at this; cases this
  obtain ⟨oL, es, ep, hL, r⟩ := id F.ns
  have Ln : env.locals ∉ news.map (·.1) := fun h => by obtain ⟨p, hp, q⟩ := List.mem_map.mp h; exact (N p hp).2.1 q
  refine ⟨m, ⟨oL, es, ep, up _ _ hL, r⟩, I, fp, wr, n, P, St, J, news, srcs, rfl, W, hlive, hsz, hst, hfp, fun b hb => ?_, hJs, fun b hb => ?_, hJ, fun p hp => up _ _ (N p hp).1, fun p hp => ⟨fun q => ?_, fun q => ?_⟩, turns_of X F N T hwr up, ?_⟩
  · rcases hfs b hb with h | h
    · rcases hss b h with h | ⟨o, h⟩
      · exact .inr (.inl h)
      · exact .inr (.inr ⟨⟨o, up _ _ (F.keep _ _ h)⟩, gn b o h⟩)
    · exact .inl h
  · rw [List.mem_singleton.mp hb]
    exact ⟨⟨_, up _ _ hL⟩, (fun q => by have := hwr _ q; rw [hL] at this; cases this), Ln⟩
  · have := hwr _ q; rw [(N p hp).1] at this; cases this
  · exact (N p hp).2.1 (List.mem_singleton.mp q)
  · rintro D h' tk ys led hD ⟨e, hpl⟩ hJ' hl ho hdom hy' hk hnL
    have hD₁ : s₁.heap.get? D = none := by
      cases q : s₁.heap.get? D with
      | none => rfl
      | some o => dsimp only at hD; rw [up _ _ q] at hD; cases hD
    have hdom₁ : DomOk s₁.heap news led := fun p hp => (hdom p hp).imp id fun h => by
      cases q : s₁.heap.get? p.1 with
      | none => rfl
      | some o => dsimp only at h; rw [up _ _ q] at h; cases h
    have k' : ∀ b o, b ≠ env.locals → b ∉ news.map (·.1) → s₁.heap.get? b = some o → h'.get? b = some o := fun b o hb hbn e => hk b o (fun q => hb (List.mem_singleton.mp q)) (fun q => by have := hwr b q; rw [e] at this; cases this) hbn (up b o e)
    refine hQ D h' tk ys led e ⟨hnL, fun b o e => k' b o (Nat.ne_of_lt (Nat.lt_of_lt_of_le (Heap.lt_size e) F.above)) (gn b o e) (F.keep b o e), F.above⟩ ?_ (fun p hp => (ho p hp).1) hD₁ hdom₁ hJ' hy'
    intro p hp
    rcases List.mem_cons.mp hp with rfl | hp
    · refine ⟨hpl, (fun (q : D = env.locals) => by rw [q, hL] at hD₁; cases hD₁), ?_⟩
      cases q : g.get? D with
      | none => rfl
      | some o => rw [F.keep _ _ q] at hD₁; cases hD₁
    · refine ⟨hl p hp, fun q => ?_, ?_⟩
      · rcases hdom₁ p hp with h | h
        · exact Ln (q ▸ h)
        · rw [q, hL] at h; cases h
      · cases q : g.get? p.1 with
        | none => rfl
        | some o =>
          rcases hdom₁ p hp with h | h
          · exact absurd h (gn _ _ q)
          · rw [F.keep _ _ q] at h; cases h
end

def Off (S tl : Led) : Prop := ∀ p ∈ tl, ∀ q ∈ S, q.1 ≠ p.1
theorem Off.nil {S : Led} : Off S [] := fun _ h => nomatch h
theorem Off.cons {S tl : Led} {d : Addr} {o : Obj} (h : ∀ q ∈ S, q.1 < d) (t : Off S tl) : Off S ((d, o) :: tl) := fun p hp => by
  rcases List.mem_cons.mp hp with rfl | hp
  · exact fun q hq => Nat.ne_of_lt (h q hq)
  · exact t p hp
theorem Off.append {S t₁ t₂ : Led} (a : Off S t₁) (b : Off S t₂) : Off S (t₁ ++ t₂) := fun p hp => by
  rcases List.mem_append.mp hp with hp | hp
  · exact a p hp
  · exact b p hp
theorem Off.sub {S S' tl : Led} (a : Off S tl) (k : ∀ p ∈ S', p ∈ S) : Off S' tl := fun p hp q hq => a p hp q (k q hq)
theorem Off.head {S tl : Led} {p : Addr × Obj} (a : Off S [p]) (b : Off S tl) : Off S (p :: tl) := Off.append a b
theorem off_fresh {g h : Heap} {L : Addr} {S tl : Led} (N : News g L h S) (hf : ∀ p ∈ tl, h.get? p.1 = none) : Off S tl := fun p hp q hq e => by
  have h1 := hf p hp
  rw [← e, (N q hq).1] at h1; cases h1
theorem off_one {g h : Heap} {L d : Addr} {o : Obj} {S : Led} (N : News g L h S) (hf : h.get? d = none) : Off S [(d, o)] := off_fresh N fun p hp => by rw [List.mem_singleton.mp hp]; exact hf

section
variable {prog : Program} {w : World} {A : Around} {E : Value → Shared → Prop} {s : Shared} {env : Env} {g : Heap} {m : Str → Option Value}
/-- the end of an element that changes nothing tracked -/
def EltP (g₃ : Heap) (C : Addr) (news tl : Led) (J : List Value → Led → Prop) (ys : List Value) (s₄ : Shared) (y : Value) (s₅ : Shared) : Prop :=
  ∃ h' tk tl' m', s₅ = { s₄ with heap := h', toks := tk } ∧ Fr g₃ C h' m' ∧ News g₃ C h' (tl' ++ (tl ++ news)) ∧ Off news tl' ∧ J (ys ++ [y]) (tl' ++ tl)

theorem compP {scope : Scope} {cl : List (Str × Addr)} {x : Str} {ifs : List Expr} {elt : Expr} {mm : Addr → Str → Option Value} {xv : Value} {K : Addr → Heap → Nat → Prop} {src : List Addr} {n : Nat} {P : Nat → Value → Prop} {news : Led} (J : Nat → List Value → Led → Prop)
    (hsrc : Src prog w A xv src n P s) (hsz : n ≤ sizeLine) (X : Foot w g) (F : Fr g env.locals s.heap m) (N : News g env.locals s.heap news) (hss : ∀ b ∈ src, b ∈ news.map (·.1) ∨ ∃ o, g.get? b = some o) (hJ : J 0 [] [])
    (turn : ∀ C i v ys tl s₃ m₃ g₃ E', i < n → P i v → J i ys tl → Off news tl → Foot w g₃ → Fr g₃ C s₃.heap m₃ → News g₃ C s₃.heap (tl ++ news) → m₃ x = some v →
      wpAny (model prog w) A (forIn ifs true fun c r => if r = true then do let ok ← isTrue c (compEnvC scope cl C env) (eval c (compEnvC scope cl C env)); pure (ForInStep.yield ok) else pure (ForInStep.yield r))
        (fun ok s₄ => (∃ tk, s₄ = { s₃ with toks := tk }) ∧ (ok = true → wpAny (model prog w) A (eval elt (compEnvC scope cl C env)) (EltP g₃ C news tl (J (i + 1)) ys s₄) E' s₄) ∧ (ok = false → J (i + 1) ys tl)) E' s₃)
    (fin : ∀ D h' tk ys tl e, Fr g env.locals h' (mm D) → News g env.locals h' ((D, listOf (List.toArray ys) e) :: (tl ++ news)) → Off news tl → Off news [(D, listOf (List.toArray ys) e)] → (∀ p ∈ tl, p.1 ≠ D) → J n ys tl → ys.length ≤ n → K D h' tk) :
    CompK prog w A env scope cl x ifs elt g m mm xv s K := by
  refine ⟨news, src, n, P, fun i ys led => ∃ tl, led = tl ++ news ∧ Off news tl ∧ J i ys tl, news, hsrc, hsz, X, F, N, hss, ?_, ⟨[], rfl, Off.nil, hJ⟩, ?_, ?_⟩
  · rintro i ys led ⟨tl, rfl, _, _⟩ p hp; exact List.mem_append_right _ hp
  · rintro C i v ys led s₃ m₃ g₃ E' hi hP ⟨tl, rfl, ho, hJ'⟩ X₃ F₃ N₃ hm
    refine wpAny_mono (turn C i v ys tl s₃ m₃ g₃ E' hi hP hJ' ho X₃ F₃ N₃ hm) (fun ok s₄ h₄ => ?_) fun _ _ e => e
    obtain ⟨h1, hy, hno⟩ := h₄
    refine ⟨h1, fun e => wpAny_mono (hy e) (fun y s₅ h₅ => ?_) fun _ _ e => e, fun e => ⟨tl, rfl, ho, hno e⟩⟩
    obtain ⟨h', tk, tl', m', rfl, F', N', ho', hJ''⟩ := h₅
    exact ⟨h', tk, _, m', rfl, F', N', tl' ++ tl, (List.append_assoc ..).symm, ho'.append ho, hJ''⟩
  · rintro D h' tk ys led e F' N' hD hD₁ hdom ⟨tl, rfl, ho, hJ'⟩ hy
    exact fin D h' tk ys tl e F' N' ho (off_one N hD₁) (fun p hp => hD p (List.mem_append_left _ hp)) hJ' hy
end
end
section
-- KT
def insK {α : Type} (k : Str) (a : α) : List (Str × α) → List (Str × α)
  | [] => [(k, a)]
  | (k', a') :: r => if Spec.ltCps k'.cps.toList k.cps.toList = true then (k', a') :: insK k a r else (k, a) :: (k', a') :: r
def sortK {α : Type} : List (Str × α) → List (Str × α)
  | [] => []
  | (k, a) :: r => insK k a (sortK r)

def entD : List (Str × Option Dat) → List Dat
  | [] => []
  | (k, some d) :: r => .tuple [.str k, d] :: entD r
  | (_, none) :: r => entD r

def isNil : Tr → Bool
  | .none => true
  | _ => false

mutual
def toldD : Tr → Dat
  | .none => .tuple [.str (Str.ofString "null")]
  | .bool b => .tuple [.str (Str.ofString "truth"), .int (if b then 1 else 0)]
  | .int i => .tuple [.str (Str.ofString "int"), .int i]
  | .dec t p => .tuple [.str (Str.ofString "real"), .int t, .int p]
  | .name x => .tuple [.str (Str.ofString "name"), .str x]
  | .string b _ => .tuple [.str (Str.ofString "string"), .bytes b]
  | .ref n g => .tuple [.str (Str.ofString "ref"), .int n, .int g]
  | .arr xs => .tuple (.str (Str.ofString "array") :: toldL xs)
  | .dict ks xs => .tuple (.str (Str.ofString "dict") :: entD (sortK (ks.zip (toldN xs))))
  | .stream ks xs b => .tuple [.str (Str.ofString "stream"), .tuple (.str (Str.ofString "dict") :: entD (sortK (ks.zip (toldN xs)))), .bytes b]
def toldL : List Tr → List Dat
  | [] => []
  | x :: r => toldD x :: toldL r
def toldN : List Tr → List (Option Dat)
  | [] => []
  | x :: r => (if isNil x = true then none else some (toldD x)) :: toldN r
end

mutual
def ht : Tr → Nat
  | .arr xs => htL xs + 1
  | .dict _ xs => htL xs + 1
  | .stream _ xs _ => htL xs + 2
  | _ => 0
def htL : List Tr → Nat
  | [] => 0
  | x :: r => max (ht x) (htL r)
end

def plainT : Tr → Bool
  | .arr _ | .dict _ _ | .stream _ _ _ => false
  | _ => true

theorem DatIn.sub {S S' : Led} {v : Value} {d : Dat} (h : DatIn S v d) (k : ∀ p ∈ S, p ∈ S') : DatIn S' v d := h.mono k
end
section
-- KR
section
variable {prog : Program} {w : World} {A : Around} {E : Value → Shared → Prop} {s : Shared}
theorem look_bytes_bytes : typeLookup (.type "bytes") "__bytes__" = pure (some (.builtin "bytes.__bytes__")) := by rw [typeLookup_type, builtinLookup_eq_fast]; kernel_rfl
theorem bytes_new_bytes {b : Array UInt8} {t : Tok} {Q : Value → Shared → Prop} (hQ : Q (.bytes b t) s) :
    codeAny (model prog w) A (.call (.builtin "bytes.__new__") ⟨[.type "bytes", .bytes b t], []⟩) (wants Q E) s := by
  refine codeAny_of_tree ?_
  show wpAny _ A.in1 (do checkBuiltinCall "bytes.__new__" ⟨[.type "bytes", .bytes b t], []⟩; again (.builtin "bytes.__new__" ⟨[.type "bytes", .bytes b t], []⟩)) _ _ s
  refine wpAny_bind (wpAny_of_eq (F.bm_newCall _) (wpAny_pure ⟨plainId_quiet F.bm_plain _, codeAny_builtin F.bm_entry ?_⟩))
  rw [Around.under_plainId F.bm_plain _]
  unfold Builtin.«bytes.__new__»
  refine wpAny_bind (wpAny_of_eq (a := true) rfl ?_)
  refine bm_if_false rfl ?_
  refine wpAny_bind (wpAny_of_eq F.bm_sub ?_)
  refine bm_if_false rfl ?_
  refine wpAny_bind (wpAny_of_eq (F.bm_bind _) ?_)
  refine wpAny_bind (wpAny_of_eq (a := ()) rfl ?_)
  refine wpAny_bind (wpAny_of_eq (a := ()) rfl ?_)
  refine bm_if_false rfl ?_
  refine wpAny_bind (wpAny_of_eq (show specialOf (.bytes b t) "__bytes__" = pure (some (.builtin "bytes.__bytes__")) from look_bytes_bytes) ?_)
  refine wpAny_bind (wpAny_rule ?_)
  refine wpAny_bind (wpAny_of_eq (show typeOf (.bytes b t) = pure (.type "bytes") from rfl) ?_)
  refine bm_if_true (by decide) ?_
  show wpAny _ _ (if (Value.type "bytes" == Value.type "bytes") = true then _ else _) _ _ _
  refine bm_if_true (by decide) ?_
  first
    | exact wpAny_pure hQ
    | exact wpAny_bind (wpAny_pure (wpAny_pure hQ))
theorem call_bytes_bytes {b : Array UInt8} {t : Tok} {Q : Value → Shared → Prop} (hQ : Q (.bytes b t) s) : wpAny (model prog w) A (call (.type "bytes") [.bytes b t]) Q E s := by
  refine callType_codes (Q₁ := fun obj s₁ => s₁.TypeIs obj "bytes" ∧ Q obj s₁) F.bm_called (F.bm_typeCall _) F.entry_object_init
    (bytes_new_bytes ⟨PySem.W.typeIs_bytes _ _ _, hQ⟩) fun obj s₁ h₁ => ?_
  exact ⟨h₁.1, F.args_object_init_2 obj _, object_init_meets F.bm_called.init.lookup F.bm_called.made (by decide) prog w A.in1 _ s₁ ⟨h₁.1, rfl, h₁.2⟩⟩
end

abbrev tupO (vs : List Value) (n : Nat := 0) : Obj := { cls := .type "tuple", data := .seq vs.toArray n }

section
variable {M : Model} {prog : Program} {w : World} {A : Around} {E : Value → Shared → Prop} {s : Shared} {g : Heap} {L C c : Addr} {m : Str → Option Value} {news : Led} {env : Env} {x : Str} {pos : Pos} {v : Value} {Q : Value → Shared → Prop}
theorem name_L (F : Fr g C s.heap m) (hL : env.locals = C) (hv : m x = some v) (h : Q v s) (hk : env.scope.kind = .function) (hx : env.kindOf x = some .local) (hd : (x == ("__debug__" : Str)) = false) : wpAny M A (eval (.Name x pos) env) Q E s := by
  subst hL; exact wpAny_Name (wpAny_loadName_local hk hx F.ns hv h) hd
theorem name_C {o : Obj} (N : News g L s.heap news) (hc : env.cells.lookup x = some c) (hm : (c, o) ∈ news) (hd : o.data = .cell (some v)) (h : Q v s) (hk : env.scope.kind = .function) (hx : env.kindOf x = some .cell) (hb : (x == ("__debug__" : Str)) = false) :
    wpAny M A (eval (.Name x pos) env) Q E s := wpAny_Name (wpAny_loadName_cell hk hx hc ⟨o, N.get hm, hd⟩ h) hb

theorem addT_K {t b : Addr} {vs ws : List Value} {n n2 : Nat} (F : Fr g L s.heap m) (N : News g L s.heap news) (ht : (t, tupO vs n) ∈ news) (hb : (b, tupO ws n2) ∈ news) (hv : vs ≠ []) (hz : vs.length + ws.length ≤ 16384)
    (h : ∀ D n' tl h', Fr g L h' m → News g L h' (tl ++ news) → Off news tl → (D, tupO (vs ++ ws) n') ∈ tl ++ news → Q (.ref D) { s with heap := h' }) : wpAny (model prog w) A (binaryOp .Add (.ref t) (.ref b)) Q E s := by
  have h1 : IsTup s.heap t vs.toArray := ⟨_, N.get ht, rfl, n, rfl⟩
  have h2 : IsTup s.heap b ws.toArray := ⟨_, N.get hb, rfl, n2, rfl⟩
  cases ws with
  | nil => exact kde_addT1 F N h1 h2 (by simpa using hv) rfl (by simpa using hz) (h t n [] s.heap F N Off.nil (by simpa using ht))
  | cons a r => exact kde_addT F N h1 h2 (by simpa using hv) (by simp) (by simpa using hz) rfl fun D h' F' N' l => h D 0 [(D, tupO (vs ++ a :: r))] h' F' (by simpa using N') (Off.cons l Off.nil) (by simp)
end

theorem dat_at {S : Led} : ∀ {vs : List Value} {ds : List Dat}, DatAll S vs ds → vs.length = ds.length
  | _, _, .nil => rfl
  | _, _, .cons _ h => by simp [dat_at h]
theorem dat_snoc {S : Led} : ∀ {vs : List Value} {ds : List Dat} {v : Value} {d : Dat}, DatAll S vs ds → DatIn S v d → DatAll S (vs ++ [v]) (ds ++ [d])
  | _, _, _, _, .nil, h => .cons h .nil
  | _, _, _, _, .cons a b, h => .cons a (dat_snoc b h)
theorem toldL_len : ∀ xs : List Tr, (toldL xs).length = xs.length
  | [] => rfl
  | _ :: r => by simp [toldL, toldL_len r]
theorem toldL_at : ∀ {xs : List Tr} {i : Nat} {x : Tr}, xs[i]? = some x → (toldL xs)[i]? = some (toldD x)
  | _ :: _, 0, _, h => by simp at h; subst h; rfl
  | _ :: r, i + 1, _, h => by simpa [toldL] using toldL_at (xs := r) (i := i) (by simpa using h)
theorem htL_at : ∀ {xs : List Tr} {i : Nat} {x : Tr}, xs[i]? = some x → ht x ≤ htL xs
  | _ :: _, 0, _, h => by simp at h; subst h; simp [htL]; omega
  | _ :: r, i + 1, _, h => by have := htL_at (xs := r) (i := i) (by simpa using h); simp only [htL]; omega

theorem lt_add2_all {S : Led} {L : Addr} (h : ∀ p ∈ S, p.1 < L) : ∀ p ∈ S, p.1 < L + 1 + 1 := fun p hp => Nat.lt_succ_of_lt (Nat.lt_succ_of_lt (h p hp))

theorem allLt_0 {S : Led} {d : Addr} (h : AllLt d S) : ∀ p ∈ S, p.1 < d := ktn_ltOf h
theorem allLt_1 {S : Led} {d : Addr} {P : Prop} (h : P ∧ AllLt d S) : ∀ p ∈ S, p.1 < d := ktn_ltOf h.2
theorem allLt_2 {S : Led} {d : Addr} {P Q : Prop} (h : P ∧ Q ∧ AllLt d S) : ∀ p ∈ S, p.1 < d := ktn_ltOf h.2.2
theorem allLt_3 {S : Led} {d : Addr} {P Q R : Prop} (h : P ∧ Q ∧ R ∧ AllLt d S) : ∀ p ∈ S, p.1 < d := ktn_ltOf h.2.2.2
theorem allLt_4 {S : Led} {d : Addr} {P Q R T : Prop} (h : P ∧ Q ∧ R ∧ T ∧ AllLt d S) : ∀ p ∈ S, p.1 < d := ktn_ltOf h.2.2.2.2

inductive Spl (S : Led) : Led → Led → Prop
  | here : Spl S S []
  | cons {p : Addr × Obj} {r tl : Led} : Spl S r tl → Spl S (p :: r) (p :: tl)
  | app {a r tl : Led} : Spl S r tl → Spl S (a ++ r) (a ++ tl)
theorem Spl.eq {S l tl : Led} (h : Spl S l tl) : l = tl ++ S := by
  induction h with
  | here => rfl
  | cons _ ih => rw [ih]; rfl
  | app _ ih => rw [ih, List.append_assoc]
theorem made_spl {h g h2 : Heap} {L : Addr} {m : Str → Option Value} {S news tl : Led} (sp : Spl S news tl) (G : ∀ b o, h.get? b = some o → b ∉ S.map (·.1) → g.get? b = some o) (hS : Stands h S)
    (F : Fr g L h2 m) (N : News g L h2 news) (off : Off S tl) : Made h h2 tl := by
  have e := sp.eq
  subst e
  exact made_of G hS F N (fun _ h => List.mem_append_right _ h) (fun _ h => List.mem_append_left _ h) off
theorem lt_succ_all {S : Led} {L : Addr} (h : ∀ p ∈ S, p.1 < L) : ∀ p ∈ S, p.1 < L + 1 := fun p hp => Nat.lt_succ_of_lt (h p hp)
end
section
-- KP
/-! sorting by key -/
abbrev kLe (a b : Str) : Prop := Spec.ltCps b.cps.toList a.cps.toList = false
theorem kLe_antisymm {a b : Str} (h1 : kLe a b) (h2 : kLe b a) : a = b := by
  simp only [kLe, ltCps_eq, decide_eq_false_iff_not] at h1 h2
  have e : a.cps.toList = b.cps.toList := List.le_antisymm h1 h2
  cases a; cases b
  simp only [Str.mk.injEq] at *
  exact Array.toList_inj.mp e
theorem kLe_trans {a b c : Str} (h1 : kLe a b) (h2 : kLe b c) : kLe a c := by
  simp only [kLe, ltCps_eq, decide_eq_false_iff_not] at h1 h2 ⊢
  exact fun h => List.le_trans h1 h2 h
theorem kLe_total {a b : Str} (h : Spec.ltCps a.cps.toList b.cps.toList = true) : kLe a b := by
  simp only [kLe, ltCps_eq, decide_eq_false_iff_not, decide_eq_true_eq] at h ⊢
  exact List.lt_asymm h
theorem sortedS_pairwise : ∀ l : List Str, sortedS l = true → l.Pairwise kLe := by
  have rise : ∀ (l : List Str) (p : Str), risingS p l = true → (p :: l).Pairwise kLe := by
    intro l
    induction l with
    | nil => intro p _; simp
    | cons x r ih =>
      intro p h
      have h' : (!Spec.ltCps x.cps.toList p.cps.toList && risingS x r) = true := h
      simp only [Bool.and_eq_true, Bool.not_eq_true'] at h'
      have h2 := ih x h'.2
      refine List.pairwise_cons.mpr ⟨fun y hy => ?_, h2⟩
      rcases List.mem_cons.mp hy with rfl | hy
      · exact h'.1
      · exact kLe_trans h'.1 (List.rel_of_pairwise_cons h2 hy)
  intro l
  cases l with
  | nil => intro _; simp
  | cons x r => exact fun h => rise r x h

theorem insK_perm {α : Type} (k : Str) (a : α) : ∀ l : List (Str × α), (insK k a l).Perm ((k, a) :: l)
  | [] => List.Perm.refl _
  | (k', a') :: r => by
    unfold insK
    split
    · exact ((insK_perm k a r).cons _).trans (List.Perm.swap _ _ _)
    · exact List.Perm.refl _
theorem sortK_perm {α : Type} : ∀ l : List (Str × α), (sortK l).Perm l
  | [] => List.Perm.refl _
  | (k, a) :: r => (insK_perm k a _).trans ((sortK_perm r).cons _)
theorem insK_sorted {α : Type} (k : Str) (a : α) : ∀ l : List (Str × α), (l.map (·.1)).Pairwise kLe → ((insK k a l).map (·.1)).Pairwise kLe
  | [], _ => by simp [insK]
  | (k', a') :: r, h => by
    unfold insK
    have h1 := List.pairwise_cons.mp h
    split
    · rename_i hlt
      refine List.pairwise_cons.mpr ⟨fun y hy => ?_, insK_sorted k a r h1.2⟩
      obtain ⟨q, hq, rfl⟩ := List.mem_map.mp hy
      rcases List.mem_cons.mp ((insK_perm k a r).mem_iff.mp hq) with rfl | hq
      · exact kLe_total hlt
      · exact h1.1 _ (List.mem_map_of_mem hq)
    · rename_i hlt
      refine List.pairwise_cons.mpr ⟨fun y hy => ?_, h⟩
      have hk : kLe k k' := by simpa [kLe] using hlt
      rcases List.mem_cons.mp hy with rfl | hy
      · exact hk
      · exact kLe_trans hk (h1.1 _ hy)
theorem sortK_sorted {α : Type} : ∀ l : List (Str × α), ((sortK l).map (·.1)).Pairwise kLe
  | [] => by simp [sortK]
  | (k, a) :: r => insK_sorted k a _ (sortK_sorted r)
theorem perm_unique : ∀ {a b : List Str}, a.Perm b → a.Pairwise kLe → b.Pairwise kLe → a = b
  | [], b, p, _, _ => (List.nil_perm.mp p).symm
  | x :: r, [], p, _, _ => absurd (List.perm_nil.mp p) (by simp)
  | x :: r, y :: t, p, h1, h2 => by
    have a1 := List.pairwise_cons.mp h1
    have a2 := List.pairwise_cons.mp h2
    have e : x = y := by
      have m1 : x ∈ y :: t := p.mem_iff.mp (List.mem_cons_self ..)
      have m2 : y ∈ x :: r := p.mem_iff.mpr (List.mem_cons_self ..)
      rcases List.mem_cons.mp m1 with e | m1
      · exact e
      · rcases List.mem_cons.mp m2 with e | m2
        · exact e.symm
        · exact kLe_antisymm (a1.1 _ m2) (a2.1 _ m1)
    subst e
    rw [perm_unique ((List.perm_cons x).mp p) a1.2 a2.2]
theorem sortK_keys {α : Type} {l : List (Str × α)} {ks : List Str} (hp : ks.Perm (l.map (·.1))) (hs : sortedS ks = true) : (sortK l).map (·.1) = ks :=
  perm_unique (((sortK_perm l).map _).trans hp.symm) (sortK_sorted l) (sortedS_pairwise ks hs)
theorem insK_map {α β : Type} (f : α → β) (k : Str) (a : α) : ∀ l : List (Str × α), insK k (f a) (l.map fun p => (p.1, f p.2)) = (insK k a l).map fun p => (p.1, f p.2)
  | [] => rfl
  | (k', a') :: r => by
    simp only [List.map_cons, insK]
    split
    · rw [insK_map f k a r]; rfl
    · rfl
theorem sortK_map {α β : Type} (f : α → β) : ∀ l : List (Str × α), sortK (l.map fun p => (p.1, f p.2)) = (sortK l).map fun p => (p.1, f p.2)
  | [] => rfl
  | (k, a) :: r => by simp only [List.map_cons, sortK]; rw [sortK_map f r, insK_map]
theorem sortK_len {α : Type} (l : List (Str × α)) : (sortK l).length = l.length := (sortK_perm l).length_eq

def optD (x : Tr) : Option Dat := if isNil x = true then none else some (toldD x)
theorem toldN_eq : ∀ xs : List Tr, toldN xs = xs.map optD
  | [] => rfl
  | x :: r => by
    rw [toldN, List.map_cons, toldN_eq r]
    rfl
end
section
-- KQ
section
variable {prog : Program} {w : World} {A : Around} {E : Value → Shared → Prop} {s : Shared} {g : Heap} {L a : Addr} {m : Str → Option Value} {news : Led} {o : Obj} {kvs : List (Str × Value)}

theorem dictOf_led (N : News g L s.heap news) (hm : (a, o) ∈ news) (hd : o.IsDictOf (PySem.strKind prog w) kvs) : s.heap.DictOf (PySem.strKind prog w) a kvs := Heap.dictOf_iff.mpr ⟨o, N.get hm, hd⟩

theorem strs_pairs {es : List DictEntry} (p : Pairs (PySem.strKind prog w) es kvs) : True := trivial

theorem sorted_dict_K {Q : Value → Shared → Prop} (hh : A.handled = none) (lo : (a == sysModules) = false) (F : Fr g L s.heap m) (N : News g L s.heap news) (hm : (a, o) ∈ news) (hd : o.IsDictOf (PySem.strKind prog w) kvs) (h8 : kvs.length < 64)
    (h : ∀ D e h' tk vs' ks', Fr g L h' m → News g L h' ((D, listOf (List.toArray vs') e) :: news) → (∀ q ∈ news, q.1 < D) → StrsAre vs' ks' → ks'.Perm (kvs.map (·.1)) → sortedS ks' = true → Q (.ref D) { s with heap := h', toks := tk }) :
    wpAny (model prog w) A (call (.builtin "sorted") [.ref a]) Q E s := by
  obtain ⟨ep, hat⟩ := (dictOf_led N hm hd).dictAt
  refine kdu_sorted (kdl_dict (knd := PySem.strKind prog w) (kvs := kvs) (ep := ep) lo) hh F N hat (kdl_size (by omega)) fun D h' tk vs F' N' l1 hl hv => ?_
  have hlen : vs.length < 64 := by omega
  have hS : StrsAre vs (kvs.map (·.1)) := by
    have gen : ∀ (vs : List Value) (kvs : List (Str × Value)), vs.length = kvs.length → (∀ (j : Nat) (v : Value), vs[j]? = some v → ∃ k x, kvs[j]? = some (k, x) ∧ (PySem.strKind prog w).is k v = true) → StrsAre vs (kvs.map (·.1)) := by
      intro vs
      induction vs with
      | nil => intro kvs hl _; cases kvs with | nil => exact .nil | cons _ _ => simp at hl
      | cons v r ih =>
        intro kvs hl hv
        cases kvs with
        | nil => simp at hl
        | cons kv t =>
          obtain ⟨k, x, h1, h2⟩ := hv 0 v rfl
          simp only [List.getElem?_cons_zero, Option.some.injEq] at h1
          subst h1
          obtain ⟨tk, rfl⟩ := Value.isStrOf_shape (show Value.isStrOf k v = true from h2)
          exact .cons k tk (ih t (by simpa using hl) fun j u hu => by simpa using hv (j + 1) u (by simpa using hu))
    exact gen vs kvs hl hv
  have ho := N'.get (List.Mem.head _)
  have hlt : D < h'.objs.size := Heap.lt_size ho
  have hT : ({ s with heap := h', toks := tk } : Shared).TypeIs (.ref D) "list" := ⟨_, ho, rfl⟩
  refine wpAny_call_entry slot_list_sort hT entry_list_sort (list_sort_treeK strKind_oneLt (n := 0) ho hS.keysOf (fun v₁ v₂ rest e => keyKind_strs (by rw [← e]; exact hS)) hlen fun st' hp hs => ⟨_, rfl, ?_⟩) (args_list_sort _)
  obtain ⟨ss', a1, a2, a3⟩ := sorted_out_str hS hp hs
  obtain ⟨e, he⟩ := sortedHeap_at (out := (arrOf st').map (·.2)) ho
  have hD : g.get? D = none ∧ D ≠ L := ⟨(N' _ (.head _)).2.2, (N' _ (.head _)).2.1⟩
  have old : ∀ b o, b ≠ D → h'.get? b = some o → (sortedHeap h' D vs ((arrOf st').map (·.2))).get? b = some o := fun b o hb e => (sortedHeap_old hb (Heap.lt_size e)).trans e
  obtain ⟨oL, es, ep', hL, r⟩ := F'.ns
  refine h D e _ tk _ ss' ⟨⟨oL, es, ep', old _ _ (Ne.symm hD.2) hL, r⟩, fun b o e => old b o (fun q => by rw [q, hD.1] at e; cases e) (F'.keep b o e), F'.above⟩ ?_ l1 a1 a2 a3
  intro p hp
  rcases List.mem_cons.mp hp with rfl | hp
  · exact ⟨by rw [Array.toArray_toList]; exact he, hD.2, hD.1⟩
  · exact ⟨old _ _ (Nat.ne_of_lt (l1 p hp)) (N' p (.tail _ hp)).1, (N' p (.tail _ hp)).2⟩

theorem dict_item {value slice : Expr} {k : Str} {t : Tok} {v : Value} {Q : Value → Shared → Prop} (N : News g L s.heap news) (hm : (a, o) ∈ news) (hd : o.IsDictOf (PySem.strKind prog w) kvs) (hv : valueAt kvs k = some v) (h : Q v { s with toks := s.toks + 1 })
    (hs : subscripted slice false (.ref a) (.str k t) = operate [.ref a, .str k t] (getItem (.ref a) (.str k t))) :
    wpAny (model prog w) A (subscriptTail value slice (.ref a) (.str k t)) Q E s :=
  have hm' := (dictOf_led N hm hd).mapOf
  tail_any hm'.typeIs slot_dict_getitem.lookup (wpAny_getItem_of (PySem.strKind_is prog w k t) hm' hv h) hs

def isNoneV : Value → Bool
  | .none => true
  | _ => false
end

theorem nil_iff {w : World} {S : Led} {v : Value} {x : Tr} (h : TrIn w S v x) : isNoneV v = isNil x := by cases h <;> rfl
end
section
-- KW
theorem valueAt_mem : ∀ {kvs : List (Str × Value)} {k : Str} {v : Value}, (kvs.map (·.1)).Nodup → (k, v) ∈ kvs → valueAt kvs k = some v
  | [], _, _, _, h => nomatch h
  | kv :: r, k, v, hn, h => by
    simp only [List.map_cons, List.nodup_cons] at hn
    by_cases e : kv.1 = k
    · rcases List.mem_cons.mp h with h | h
      · subst h; simp [valueAt]
      · exact absurd (List.mem_map_of_mem (f := (·.1)) h) (by subst e; exact hn.1)
    · rcases List.mem_cons.mp h with h | h
      · exact absurd (by rw [← h]) e
      · have := valueAt_mem hn.2 h
        simpa [valueAt, e] using this

abbrev Row3 := Str × (Value × Tr)
def rows3 (kvs : List (Str × Value)) (xs : List Tr) : List Row3 := List.zipWith (fun kv x => (kv.1, (kv.2, x))) kvs xs
theorem rows3_kv : ∀ {kvs : List (Str × Value)} {xs : List Tr}, kvs.length = xs.length → (rows3 kvs xs).map (fun r => (r.1, r.2.1)) = kvs
  | [], [], _ => rfl
  | [], _ :: _, h => by simp at h
  | _ :: _, [], h => by simp at h
  | _ :: r, _ :: t, h => by
    have ih := rows3_kv (kvs := r) (xs := t) (by simpa using h)
    simp only [rows3, List.zipWith_cons_cons, List.map_cons] at ih ⊢
    rw [ih]
theorem rows3_kx : ∀ {kvs : List (Str × Value)} {xs : List Tr}, (rows3 kvs xs).map (fun r => (r.1, r.2.2)) = (kvs.map (·.1)).zip xs
  | [], _ => by simp [rows3]
  | _ :: _, [] => by simp [rows3]
  | _ :: r, _ :: t => by
    have ih := rows3_kx (kvs := r) (xs := t)
    simp only [rows3, List.zipWith_cons_cons, List.map_cons, List.zip_cons_cons] at ih ⊢
    rw [ih]
theorem rows3_tr {P : World} {S : Led} : ∀ {kvs : List (Str × Value)} {xs : List Tr}, TrAll P S (kvs.map (·.2)) xs → ∀ r ∈ rows3 kvs xs, TrIn P S r.2.1 r.2.2
  | [], _, _, r, h => by simp [rows3] at h
  | _ :: _, [], h, _, _ => by cases h
  | kv :: q, x :: t, h, r, hr => by
    cases h with
    | cons hx ht =>
      simp only [rows3, List.zipWith_cons_cons] at hr
      rcases List.mem_cons.mp hr with rfl | hr
      · exact hx
      · exact rows3_tr ht r hr
theorem rows3_ht {kvs : List (Str × Value)} {xs : List Tr} : ∀ r ∈ rows3 kvs xs, ht r.2.2 ≤ htL xs := by
  intro r hr
  have : r.2.2 ∈ xs := by
    have h2 : (r.1, r.2.2) ∈ (kvs.map (·.1)).zip xs := by
      rw [← rows3_kx]
      exact List.mem_map_of_mem (f := fun r : Row3 => (r.1, r.2.2)) hr
    exact (List.of_mem_zip h2).2
  obtain ⟨i, hi⟩ := List.mem_iff_getElem?.mp this
  exact htL_at hi

/-- the rows of a dict in the order of its keys -/
theorem rows_sorted {P : World} {S : Led} {kvs : List (Str × Value)} {xs : List Tr} {vs' : List Value} {ks' : List Str} (hall : TrAll P S (kvs.map (·.2)) xs) (hn : (kvs.map (·.1)).Nodup)
    (hvs : StrsAre vs' ks') (hp : ks'.Perm (kvs.map (·.1))) (hs : sortedS ks' = true) {i : Nat} {v : Value} (hv : vs'[i]? = some v) :
    ∃ r t, (sortK (rows3 kvs xs))[i]? = some r ∧ v = .str r.1 t ∧ valueAt kvs r.1 = some r.2.1 ∧ TrIn P S r.2.1 r.2.2 ∧ ht r.2.2 ≤ htL xs := by
  have hl : kvs.length = xs.length := by simpa using hall.length
  have e0 : (rows3 kvs xs).map (·.1) = kvs.map (·.1) := by
    conv => rhs; rw [← rows3_kv hl]
    rw [List.map_map]; rfl
  have ek : (sortK (rows3 kvs xs)).map (·.1) = ks' := sortK_keys (by rw [e0]; exact hp) hs
  obtain ⟨k, t, hk, hvk⟩ : ∃ k t, ks'[i]? = some k ∧ v = .str k t := by
    have gen : ∀ (vs : List Value) (ks : List Str) (i : Nat) (v : Value), StrsAre vs ks → vs[i]? = some v → ∃ k t, ks[i]? = some k ∧ v = .str k t := by
      intro vs ks i v h
      induction h generalizing i with
      | nil => intro h; simp at h
      | cons k t _ ih =>
        intro h
        cases i with
        | zero => simp at h; exact ⟨_, t, rfl, h.symm⟩
        | succ i => simpa using ih i (by simpa using h)
    exact gen _ _ _ _ hvs hv
  rw [← ek, List.getElem?_map] at hk
  obtain ⟨r, hr, rfl⟩ := Option.map_eq_some_iff.mp hk
  have hm : r ∈ rows3 kvs xs := (sortK_perm _).mem_iff.mp (List.mem_of_getElem? hr)
  refine ⟨r, t, hr, hvk, ?_, rows3_tr hall r hm, rows3_ht r hm⟩
  refine valueAt_mem hn ?_
  have := List.mem_map_of_mem (f := fun r : Row3 => (r.1, r.2.1)) hm
  rwa [rows3_kv hl] at this
theorem rows_len {P : World} {S : Led} {kvs : List (Str × Value)} {xs : List Tr} {vs' : List Value} {ks' : List Str} (hall : TrAll P S (kvs.map (·.2)) xs)
    (hvs : StrsAre vs' ks') (hp : ks'.Perm (kvs.map (·.1))) : vs'.length = (sortK (rows3 kvs xs)).length := by
  have hl : kvs.length = xs.length := by simpa using hall.length
  have h1 : vs'.length = ks'.length := by
    clear hp
    induction hvs with
    | nil => rfl
    | cons _ _ _ ih => simp [ih]
  rw [h1, hp.length_eq, sortK_len, List.length_map]
  simp [rows3, hl]

theorem entD_snoc_some (l : List (Str × Option Dat)) (k : Str) (d : Dat) : entD (l ++ [(k, some d)]) = entD l ++ [.tuple [.str k, d]] := by
  induction l with
  | nil => rfl
  | cons a r ih => obtain ⟨k', o⟩ := a; cases o <;> simp [entD, ih]
theorem entD_snoc_none (l : List (Str × Option Dat)) (k : Str) : entD (l ++ [(k, none)]) = entD l := by
  induction l with
  | nil => rfl
  | cons a r ih => obtain ⟨k', o⟩ := a; cases o <;> simp [entD, ih]
def rowD (r : Row3) : Str × Option Dat := (r.1, optD r.2.2)
theorem dict_ent {kvs : List (Str × Value)} {xs : List Tr} : entD (sortK ((kvs.map (·.1)).zip (toldN xs))) = entD ((sortK (rows3 kvs xs)).map rowD) := by
  have e : (kvs.map (·.1)).zip (toldN xs) = (rows3 kvs xs).map fun p => (p.1, optD p.2.2) := by
    rw [toldN_eq]
    have : ((kvs.map (·.1)).zip xs).map (fun p => (p.1, optD p.2)) = (kvs.map (·.1)).zip (xs.map optD) := by
      rw [List.zip_map_right]; rfl
    rw [← this, ← rows3_kx, List.map_map]; rfl
  rw [e]
  have := sortK_map (fun vx : Value × Tr => optD vx.2) (rows3 kvs xs)
  rw [this]; rfl
theorem rows_take {R : List Row3} {i : Nat} {r : Row3} (h : R[i]? = some r) : (R.take (i + 1)).map rowD = (R.take i).map rowD ++ [rowD r] := by
  rw [List.take_add_one, h]; simp
theorem Off.top {S news tl : Led} {d : Addr} {o : Obj} (l : ∀ p ∈ news, p.1 < d) (k : ∀ p ∈ S, p ∈ news) (t : Off S tl) : Off S ((d, o) :: tl) := Off.cons (fun q hq => l q (k q hq)) t
theorem noneV_eq {P : World} {S : Led} {v : Value} {x : Tr} (h : TrIn P S v x) : (v == .none) = isNil x := by cases h <;> rfl
theorem rowD_none {r : Row3} (h : isNil r.2.2 = true) : rowD r = (r.1, none) := by unfold rowD optD; rw [if_pos h]
theorem rowD_some {r : Row3} (h : isNil r.2.2 = false) : rowD r = (r.1, some (toldD r.2.2)) := by unfold rowD optD; rw [if_neg (by rw [h]; exact Bool.false_ne_true)]
end
section
-- K1
theorem fill0 (w : World) : PySem.Challenge.rw_og0158_01 = PySem.Challenge.rw_og0158_01 → hd.heap_1 w.params = hd.heap_1 w.params := by
  k_fill
  intro _; rfl

theorem kind_of_spec {w : World} {dp un : Nat} {fr : Option (List Env)} {gd : Option (List Code)} {s : Shared} {S : Led} {v : Value} {x : Tr} {Q E : Value → Shared → Prop}
    (X : Foot w (hideAll s.heap (S.map (·.1)))) (hS : Stands s.heap S) (hx : TrIn w S v x) (hd : dp + 1 < recursionLimit) (hu : un + 100 < cLine)
    (ret : ∀ t h' tk', Made s.heap h' [] → Q (.str (Str.ofString (kindS x)) t) { s with heap := h', toks := tk' }) :
    wpAny (model PySem.Challenge.rw_og0158_01.row.prog w) (ar dp un fr gd) (call (.ref 253) [v]) Q E s := by
  refine wpAny_call ?_
  k_dflt (refine' enter (binds := [(Str.ofString "value", v)]) S X hS ?k6 ?k7 ?k8 ?k9 ?kB ?_ ?c2 ?c3 ?c4 ?c5; (case k6 => k_is); (case k7 => k_is); (case k8 => (dsimp only; omega)); (case k9 => exact BindsTo.of_eq rfl); (case c5 => decide); (case kB => exact locs rfl); (case c2 => exact rfl); (case c3 => exact rfl); (case c4 => exact rfl); k_whole)
  intro g' L' h' G' F' N' l1 X' T'
  obtain ⟨mean, mg, mb, T'⟩ := T'
  cases hx
  case dict a o kvs xs hm _ hd _ _ =>
    obtain ⟨es, ep, ⟨c1, c2, c3⟩, hdat, _⟩ := hd
    obtain ⟨oc, od, odt, osl⟩ := o
    simp only at c1 c2 c3 hdat
    subst c1 c2 c3 hdat
    k_fold
    k_steps
    exact ret _ _ _ (made_nil G' hS (by assumption) (by assumption) fun _ h => h)
  all_goals (
    k_fold
    k_steps
    all_goals first | exact ret _ _ _ (made_nil G' hS (by assumption) (by assumption) fun _ h => h) | skip)
end
section
-- K2
local macro_rules | `(tactic| walk_at "call type:bytes") => `(tactic| (refine call_bytes_bytes ?_))
theorem told_plain_spec {w : World} {dp un : Nat} {fr : Option (List Env)} {gd : Option (List Code)} {s : Shared} {S : Led} {v : Value} {t : Tok} {x : Tr} {Q E : Value → Shared → Prop}
    (X : Foot w (hideAll s.heap (S.map (·.1)))) (hS : Stands s.heap S) (hx : TrIn w S v x) (hp : plainT x = true) (hd : dp + 10 < recursionLimit) (hu : un + 100 < cLine)
    (ret : ∀ r tl h' tk', Made s.heap h' tl → DatIn (tl ++ S) r (toldD x) → Q r { s with heap := h', toks := tk' }) :
    wpAny (model PySem.Challenge.rw_og0158_01.row.prog w) (ar dp un fr gd) (call (.ref 260) [.str (Str.ofString (kindS x)) t, v]) Q E s := by
  refine wpAny_call ?_
  k_dflt (refine' enter (binds := [(Str.ofString "kind", .str (Str.ofString (kindS x)) t), (Str.ofString "value", v)]) S X hS ?k6 ?k7 ?k8 ?k9 ?kB ?_ ?c2 ?c3 ?c4 ?c5; (case k6 => k_is); (case k7 => k_is); (case k8 => (dsimp only; omega)); (case k9 => exact BindsTo.of_eq rfl); (case c5 => decide); (case kB => exact locs rfl); (case c2 => exact rfl); (case c3 => exact rfl); (case c4 => exact rfl); k_whole)
  intro g' L' h' G' F' N' l1 X' T'
  obtain ⟨mean, mg, mb, T'⟩ := T'
  cases hx
  case arr => cases hp
  case dict => cases hp
  case stream => cases hp
  all_goals (
    simp only [kindS] at *
    k_fold
    k_steps)
  all_goals (
    refine ret _ [_] _ _ (made_one G' hS (by assumption) (by assumption) (fun _ h => .tail _ h) (.head _) (by assumption)) ?_
    simp only [toldD]
    (try simp only [*])
    refine DatIn.tuple (.head _) ?_
    repeat' (first | exact DatAll.nil | exact DatIn.str _ _ | exact DatIn.int _ _ | exact DatIn.bytes _ _ | refine DatAll.cons ?_ ?_))
end
section
-- K3
section
variable {w : World} {dp un : Nat} {fr : Option (List Env)} {gd : Option (List Code)} {s : Shared} {g : Heap} {L : Addr} {m : Str → Option Value} {S news : Led} {v : Value} {x : Tr} {Q E : Value → Shared → Prop}
theorem kind_of_K {mean : ExcName → Option Value} {mg mb : Str → Option Value} (F : Fr g L s.heap m) (N : News g L s.heap news) (X : (hd.heap_1 w.params).In g) (T : Top hdV (looseW hdV [Str.ofString "PaperError"]) mean mg mb g) (hx : TrIn w S v x) (sub : ∀ p ∈ S, p ∈ news) (hd : dp + 1 < recursionLimit) (hu : un + 100 < cLine)
    (ret : ∀ t h' tk', Fr g L h' m → News g L h' news → Q (.str (Str.ofString (kindS x)) t) { s with heap := h', toks := tk' }) :
    wpAny (model PySem.Challenge.rw_og0158_01.row.prog w) (ar dp un fr gd) (call (.ref 253) [v]) Q E s :=
  kind_of_spec (foot_of ⟨X, _, _, _, T⟩ F N sub) (stands_of N sub) hx hd hu fun t h' tk' M => ret t h' tk' (M.fr F) (by simpa using M.news F N)
theorem told_plain_K {mean : ExcName → Option Value} {mg mb : Str → Option Value} {t : Tok} {k : Str} (F : Fr g L s.heap m) (N : News g L s.heap news) (X : (hd.heap_1 w.params).In g) (T : Top hdV (looseW hdV [Str.ofString "PaperError"]) mean mg mb g) (hx : TrIn w S v x) (sub : ∀ p ∈ S, p ∈ news) (hp : plainT x = true) (hk : Str.ofString (kindS x) = k) (hd : dp + 10 < recursionLimit) (hu : un + 100 < cLine)
    (ret : ∀ r tl h' tk', Off news tl → Fr g L h' m → News g L h' (tl ++ news) → DatIn (tl ++ S) r (toldD x) → Q r { s with heap := h', toks := tk' }) :
    wpAny (model PySem.Challenge.rw_og0158_01.row.prog w) (ar dp un fr gd) (call (.ref 260) [.str k t, v]) Q E s :=
  hk ▸ told_plain_spec (foot_of ⟨X, _, _, _, T⟩ F N sub) (stands_of N sub) hx hp hd hu fun r tl h' tk' M D => ret r tl h' tk' (off_fresh N fun p hp => (M.2 p hp).2) (M.fr F) (M.news F N) D
end


local macro_rules | `(tactic| tb_start) => `(tactic| first | assumption | exact List.Mem.head _ | (refine List.Mem.tail _ ?_; tb_start) | (refine List.mem_append_right _ ?_; tb_start) | (refine List.mem_append_left _ ?_; tb_start))
local macro_rules | `(tactic| tb_rel) => `(tactic| first | (intro p hp; tb_start) | exact subN | (refine subC (by tb_start) ?_; tb_rel) | (refine subA ?_ ?_ <;> tb_rel) | (intro p hp; simp only [List.mem_append, List.mem_cons, List.append_assoc, List.cons_append, List.nil_append] at hp ⊢; grind))
local macro_rules | `(tactic| k_mem) => `(tactic| tb_start)
local macro_rules | `(tactic| ktn_open) => `(tactic| first | exact Off.nil | (refine Off.append ?_ ?_ <;> ktn_open) | exact Off.sub (by assumption) (by tb_rel) | (refine Off.cons (fun q hq => (by assumption : ∀ p ∈ _, p.1 < _) q (by tb_start)) ?_; ktn_open) | (refine Off.cons (by first | exact lt_succ_all (by assumption) | exact allLt_0 (by assumption) | exact allLt_1 (by assumption) | exact allLt_2 (by assumption) | exact allLt_3 (by assumption) | exact allLt_4 (by assumption)) ?_; ktn_open) | (refine Off.head (Off.sub (by assumption) (by tb_rel)) ?_; ktn_open))
local macro_rules | `(tactic| ktr_unf) => `(tactic| (repeat' first | exact Spl.here | apply Spl.cons | apply Spl.app))
local macro_rules | `(tactic| walk_at "call ref") => `(tactic| (k_here; (with_reducible show wpAny _ _ (call (Value.ref 253) [_]) _ _ _); k_dflt (refine kind_of_K (by assumption) (by assumption) (by assumption) (by assumption) (by assumption) (by assumption) (by (try dsimp only); omega) (by (try dsimp only); omega) ?_); intro t' h' tk' F' N'; (try dsimp only [kindS]); k_sweep))

local macro_rules | `(tactic| walk_at "call ref") => `(tactic| (k_here; (with_reducible show wpAny _ _ (call (Value.ref 260) [_, _]) _ _ _); k_dflt (refine told_plain_K (by assumption) (by assumption) (by assumption) (by assumption) (by assumption) (by tb_rel) rfl rfl (by dsimp only; omega) (by dsimp only; omega) ?_); intro r' tl' h' tk' f' F' N' d'; k_sweep))

local macro_rules | `(tactic| walk_at "eval Name") => `(tactic| (k_here; k_inBlock; k_dflt (refine' name_L ?F ?L ?v ?_ ?a ?b ?c; (case L => exact rfl); (case F => assumption); (case v => assumption); (case a => with_unfolding_all rfl); (case b => with_unfolding_all rfl); (case c => decide); k_whole)))
local macro_rules | `(tactic| walk_at "call type:tuple") => `(tactic| (k_here; (with_reducible show wpAny _ _ (call (Value.type "tuple") [Value.ref _]) _ _ _); k_dflt (refine kde_tupleOf (by assumption) (by assumption) (News.isList (by assumption) (by tb_start)) ?_ rfl ?_); rotate_left; (intro D' h' F' N' l1'; (try k_sweep)); (rotate_left; (first | omega | (simp only [List.size_toArray]; omega)))))
local macro_rules | `(tactic| walk_at "binaryOp Add") => `(tactic| (k_here; (with_reducible show wpAny _ _ (binaryOp Operator.Add (Value.ref _) (Value.ref _)) _ _ _); k_dflt (refine addT_K (by assumption) (by assumption) (by tb_start) (by tb_start) (by simp) ?_ ?_); rotate_left; (intro D' n' tl' h' F' N' o' m'; k_sweep); (rotate_left; (first | omega | (simp only [List.size_toArray, List.length_cons, List.length_nil]; omega)))))
local macro_rules | `(tactic| walk_at "call type:bytes") => `(tactic| (refine call_bytes_bytes ?_))
local macro_rules | `(tactic| walk_at "eval ListComp") => `(tactic| (k_here; k_dflt (refine' ListComp_F ?kF ?k1 ?k2 ?k3 ?k4 ?k5 ?k6 ?_; (case kF => assumption); (case k1 => with_unfolding_all rfl); (case k2 => decide); (case k3 => with_unfolding_all rfl); (case k4 => decide); (case k5 => with_unfolding_all rfl); (case k6 => intro _; with_unfolding_all rfl)); walk_say "MY COMP"))


theorem hss_one {g : Heap} {a : Addr} {o : Obj} {news : Led} (h : (a, o) ∈ news) : ∀ b ∈ [a], b ∈ news.map (·.1) ∨ ∃ o, g.get? b = some o := fun b hb => by
  rw [List.mem_singleton.mp hb]; exact .inl (List.mem_map_of_mem h)

def ToldAt (w : World) (n : Nat) : Prop := ∀ {x : Tr} {dp un : Nat} {fr : Option (List Env)} {gd : Option (List Code)} {s : Shared} {S : Led} {v : Value} {Q E : Value → Shared → Prop},
    ht x < n → Foot w (hideAll s.heap (S.map (·.1))) → Stands s.heap S → TrIn w S v x → dp + 4 * n + 20 < recursionLimit → un + 40 * n + 200 < cLine →
    (∀ r tl h' tk', Made s.heap h' tl → DatIn (tl ++ S) r (toldD x) → Q r { s with heap := h', toks := tk' }) →
    wpAny (model PySem.Challenge.rw_og0158_01.row.prog w) (ar dp un fr gd) (call (.ref 265) [v]) Q E s

theorem told_spec {w : World} : ∀ n : Nat, ToldAt w n := by
  intro n0
  induction n0 with
  | zero => intro x dp un fr gd s S v Q E hn; exact absurd hn (Nat.not_lt_zero _)
  | succ n0 ih =>
  intro x dp un fr gd s S v Q E hn X hS hx hd hu ret
  have hcl := cLine_is
  refine wpAny_call ?_
  k_dflt (refine' enterC (binds := [(Str.ofString "value", v)]) S X hS ?k6 ?k7 ?k8 ?k9 ?kB ?kD ?_ ?c2 ?c3 ?c4; (case k6 => k_is); (case k7 => k_is); (case k8 => (dsimp only; omega)); (case k9 => exact BindsTo.of_eq rfl); (case kB => exact rfl); (case kD => decide +kernel); (case c2 => exact rfl); (case c3 => exact rfl); (case c4 => exact rfl); k_whole)
  intro g' L' h' tk' cells' G' F' N' Y' l1 X' T'
  obtain ⟨mean, mg, mb, T'⟩ := T'
  obtain ⟨o1, hE, d1⟩ := CellsAre.one Y'
  subst hE
  (try simp only [List.cons_append, List.nil_append] at N')
  have hsub : ∀ p ∈ S, p ∈ (((L' + 1, o1) : Addr × Obj) :: S : Led) := fun p h => List.Mem.tail _ h
  have hx0 := hx
  cases hx
  case stream a d c h1 h2 t1 t2 n b u1 o kvs xs hm1 hm2 hm3 lo hd hall h8 =>
    k_unmd
    k_fold
    k_steps
    rename Fr _ _ _ _ => F1
    rename News _ _ _ _ => N1
    refine ih (x := .dict (kvs.map (·.1)) xs) (S := S) ?hh (foot_of ⟨X', _, _, _, T'⟩ F1 N1 (by tb_rel)) (stands_of N1 (by tb_rel)) (.dict hm3 lo hd hall h8) ?ra ?rb ?_
    (case hh => (simp only [ht] at hn ⊢; omega))
    (case ra => ((try dsimp only); omega))
    (case rb => ((try dsimp only); omega))
    intro r tl h' tk' M D
    have F2 := M.fr F1
    have N2 := M.news F1 N1
    have o2 : Off _ tl := off_fresh N1 fun p hp => (M.2 p hp).2
    (try dsimp only)
    k_steps
    rename Fr _ _ _ _ => F3
    rename News _ _ _ _ => N3
    refine ret _ _ _ _ (made_spl (by ktr_unf) G' hS F3 N3 ?_) ?_
    · ktn_open
    · simp only [toldD] at D ⊢
      refine DatIn.tuple (n := _) (.head _) (DatAll.cons (DatIn.str _ _) (DatAll.cons (D.mono (by tb_rel)) (DatAll.cons (DatIn.bytes _ _) DatAll.nil)))
  case dict a o kvs xs hm lo hd hall h8 =>
    k_unmd
    k_fold
    k_steps
    rename Fr _ _ _ _ => F1
    rename News _ _ _ _ => N1
    have hnd : (kvs.map (·.1)).Nodup := hd.choose_spec.choose_spec.2.2.2.2
    have hlk : kvs.length = xs.length := by simpa using hall.length
    refine sorted_dict_K rfl lo F1 N1 (by tb_start) hd (by omega) ?_
    intro D e h' tk vs' ks' F2 N2 l2 hvs hp hs
    have hrl := rows_len hall hvs hp
    refine compP (fun i ys tl => DatAll (tl ++ S) ys (entD (((sortK (rows3 kvs xs)).take i).map rowD))) (src_list rfl (N2.isList (.head _))) ?_ ⟨X', _, _, _, T'⟩ F2 N2 (hss_one (.head _)) ?_ ?_ ?_
    · rw [hrl, sizeLine_eq, sortK_len]; simp [rows3]; omega
    · exact DatAll.nil
    · intro C i v ys tl s₃ m₃ g₃ E' hi hv hJ ho X₃ F₃ N₃ hm₃
      obtain ⟨K₃, mean₃, mg₃, mb₃, T₃⟩ := X₃
      obtain ⟨r, t, hr, rfl, hval, htr, hht⟩ := rows_sorted hall hnd hvs hp hs hv
      refine wpAny_tests_one ?_
      k_steps
      refine dict_item N₃ (by tb_start) hd hval ?_ (by with_unfolding_all rfl)
      k_steps
      refine isNot_none ?_
      rw [noneV_eq htr]
      refine wpAny_truthy_bool ?_
      refine ⟨⟨_, rfl⟩, fun e => ?_, fun e => ?_⟩
      · k_steps
        refine dict_item N₃ (by tb_start) hd hval ?_ (by with_unfolding_all rfl)
        k_steps
        refine ih (x := r.2.2) (S := S) ?hh (foot_of ⟨K₃, _, _, _, T₃⟩ F₃ N₃ (by tb_rel)) (stands_of N₃ (by tb_rel)) htr ?ra ?rb ?_
        (case hh => (simp only [ht] at hn; omega))
        (case ra => ((try dsimp only); omega))
        (case rb => ((try dsimp only); omega))
        intro y tl' h' tk' M D
        have F4 := M.fr F₃
        have N4 := M.news F₃ N₃
        have o4 : Off _ tl' := off_fresh N₃ fun p hp => (M.2 p hp).2
        (try dsimp only)
        k_steps
        rename Fr _ _ _ _ => F5
        rename News _ _ _ _ => N5
        refine ⟨_, _, (_, _) :: tl', _, rfl, F5, N5, ?_, ?_⟩
        · exact Off.top (by first | assumption | exact allLt_0 (by assumption)) (by tb_rel) (o4.sub (by tb_rel))
        · rw [rows_take hr, rowD_some (by simpa using e), entD_snoc_some]
          exact dat_snoc (hJ.mono (by tb_rel)) (DatIn.tuple (n := 0) (.head _) (DatAll.cons (DatIn.str _ _) (DatAll.cons (D.mono (by tb_rel)) DatAll.nil)))
      · rw [rows_take hr, rowD_none (by simpa using e), entD_snoc_none]
        exact hJ
    · intro D h' tk ys tl e F N ho2 ho3 hD hJ hy
      have hys : ys.length ≤ 8 := by
        have h9 : (sortK (rows3 kvs xs)).length = xs.length := by rw [sortK_len]; simp [rows3, hlk]
        omega
      have hJ' : DatAll (tl ++ S) ys (entD (sortK ((kvs.map (·.1)).zip (toldN xs)))) := by
        rw [dict_ent]
        rwa [List.take_of_length_le (by omega)] at hJ
      (try dsimp only)
      (try k_unmd)
      k_fold
      k_steps
      rename Fr _ _ _ _ => F5
      rename News _ _ _ _ => N5
      rename (_, _) ∈ _ => m2
      refine ret _ _ _ _ (made_spl (by ktr_unf) G' hS F5 N5 ?_) ?_
      · ktn_open
      · simp only [toldD]
        refine DatIn.tuple (n := _) (by simpa only [List.append_assoc, List.cons_append, List.nil_append] using m2) (DatAll.cons (DatIn.str _ _) (hJ'.mono (by tb_rel)))
  case arr vs n xs hm hall h8 =>
    k_unmd
    k_fold
    k_steps
    rename Fr _ _ _ _ => F1
    rename News _ _ _ _ => N1
    refine compP (fun i ys tl => DatAll (tl ++ S) ys ((toldL xs).take i)) (src_list rfl (N1.isList (.tail _ (.tail _ hm)))) ?_ ⟨X', _, _, _, T'⟩ F1 N1 ?_ ?_ ?_ ?_
    · rw [hall.length, sizeLine_eq]; omega
    · exact hss_one (.tail _ (.tail _ hm))
    · exact DatAll.nil
    · intro C i v ys tl s₃ m₃ g₃ E' hi hv hJ ho X₃ F₃ N₃ hm₃
      obtain ⟨K₃, mean₃, mg₃, mb₃, T₃⟩ := X₃
      refine wpAny_tests_nil ⟨⟨_, rfl⟩, fun _ => ?_, fun e => nomatch e⟩
      k_steps
      obtain ⟨x, hxi, hxt⟩ := hall.at hv
      have hh : ht x < n0 := by have := htL_at hxi; simp only [ht] at hn; omega
      refine ih (x := x) (S := S) hh (foot_of ⟨K₃, _, _, _, T₃⟩ F₃ N₃ (by tb_rel)) (stands_of N₃ (by tb_rel)) hxt ?ra ?rb ?_
      (case ra => ((try dsimp only); omega))
      (case rb => ((try dsimp only); omega))
      intro r tl' h' tk' M D
      k_steps
      refine ⟨_, _, tl', _, rfl, M.fr F₃, M.news F₃ N₃, ?_, ?_⟩
      · exact (off_fresh N₃ fun p hp => (M.2 p hp).2).sub (by tb_rel)
      · rw [List.take_add_one, toldL_at hxi]
        exact dat_snoc (hJ.mono (by tb_rel)) (D.mono (by tb_rel))
    · intro D h' tk ys tl e F N ho2 ho3 hD hJ hy
      have hys : ys.length ≤ 8 := by have := hall.length; omega
      have hJ' : DatAll (tl ++ S) ys (toldL xs) := by rwa [List.take_of_length_le (by rw [toldL_len, hall.length]; omega)] at hJ
      (try dsimp only)
      (try k_unmd)
      k_fold
      k_steps
      rename Fr _ _ _ _ => F2
      rename News _ _ _ _ => N2
      rename (_, _) ∈ _ => m2
      refine ret _ _ _ _ (made_spl (by ktr_unf) G' hS F2 N2 ?_) ?_
      · ktn_open
      · simp only [toldD]
        refine DatIn.tuple (n := _) (by simpa only [List.append_assoc, List.cons_append, List.nil_append] using m2) (DatAll.cons (DatIn.str _ _) (hJ'.mono (by tb_rel)))
  all_goals (
    k_unmd
    k_fold
    k_steps)
  all_goals (
    refine ret _ _ _ _ ?_ (by assumption)
    exact made_of G' hS (by assumption) (by assumption) (by tb_rel) (by tb_rel) (Off.sub (by assumption) (by tb_rel)))
end
local macro_rules | `(tactic| tb_start) => `(tactic| first | assumption | exact List.Mem.head _ | (refine List.Mem.tail _ ?_; tb_start) | (refine List.mem_append_right _ ?_; tb_start) | (refine List.mem_append_left _ ?_; tb_start))
local macro_rules | `(tactic| tb_rel) => `(tactic| first | (intro p hp; tb_start) | exact subN | (refine subC (by tb_start) ?_; tb_rel) | (refine subA ?_ ?_ <;> tb_rel) | (intro p hp; simp only [List.mem_append, List.mem_cons, List.append_assoc, List.cons_append, List.nil_append] at hp ⊢; grind))
local macro_rules | `(tactic| k_mem) => `(tactic| tb_start)
local macro_rules | `(tactic| ktn_open) => `(tactic| first | exact Off.nil | (refine Off.append ?_ ?_ <;> ktn_open) | exact Off.sub (by assumption) (by tb_rel) | (refine Off.cons (fun q hq => (by assumption : ∀ p ∈ _, p.1 < _) q (by tb_start)) ?_; ktn_open) | (refine Off.cons (by first | exact lt_succ_all (by assumption) | exact allLt_0 (by assumption) | exact allLt_1 (by assumption) | exact allLt_2 (by assumption) | exact allLt_3 (by assumption) | exact allLt_4 (by assumption)) ?_; ktn_open) | (refine Off.head (Off.sub (by assumption) (by tb_rel)) ?_; ktn_open))
local macro_rules | `(tactic| ktr_unf) => `(tactic| (repeat' first | exact Spl.here | apply Spl.cons | apply Spl.app))
local macro_rules | `(tactic| walk_at "call ref") => `(tactic| (k_here; (with_reducible show wpAny _ _ (call (Value.ref 253) [_]) _ _ _); k_dflt (refine kind_of_K (by assumption) (by assumption) (by assumption) (by assumption) (by assumption) (by first | assumption | tb_rel) (by (try dsimp only); omega) (by (try dsimp only); omega) ?_); intro t' h' tk' F' N'; (try dsimp only [kindS]); k_sweep))
local macro_rules | `(tactic| walk_at "call ref") => `(tactic| (k_here; (with_reducible show wpAny _ _ (call (Value.ref 260) [_, _]) _ _ _); k_dflt (refine told_plain_K (by assumption) (by assumption) (by assumption) (by assumption) (by assumption) (by tb_rel) rfl rfl (by dsimp only; omega) (by dsimp only; omega) ?_); intro r' tl' h' tk' f' F' N' d'; k_sweep))
local macro_rules | `(tactic| walk_at "eval Name") => `(tactic| (k_here; k_inBlock; k_dflt (refine' name_L ?F ?L ?v ?_ ?a ?b ?c; (case L => exact rfl); (case F => assumption); (case v => assumption); (case a => with_unfolding_all rfl); (case b => with_unfolding_all rfl); (case c => decide); k_whole)))
local macro_rules | `(tactic| walk_at "call type:tuple") => `(tactic| (k_here; (with_reducible show wpAny _ _ (call (Value.type "tuple") [Value.ref _]) _ _ _); k_dflt (refine kde_tupleOf (by assumption) (by assumption) (News.isList (by assumption) (by tb_start)) ?_ rfl ?_); rotate_left; (intro D' h' F' N' l1'; (try k_sweep)); (rotate_left; (first | omega | (simp only [List.size_toArray]; omega)))))
local macro_rules | `(tactic| walk_at "binaryOp Add") => `(tactic| (k_here; (with_reducible show wpAny _ _ (binaryOp Operator.Add (Value.ref _) (Value.ref _)) _ _ _); k_dflt (refine addT_K (by assumption) (by assumption) (by tb_start) (by tb_start) (by simp) ?_ ?_); rotate_left; (intro D' n' tl' h' F' N' o' m'; k_sweep); (rotate_left; (first | omega | (simp only [List.size_toArray, List.length_cons, List.length_nil]; omega)))))
local macro_rules | `(tactic| walk_at "call type:bytes") => `(tactic| (refine call_bytes_bytes ?_))
local macro_rules | `(tactic| walk_at "eval ListComp") => `(tactic| (k_here; k_dflt (refine' ListComp_F ?kF ?k1 ?k2 ?k3 ?k4 ?k5 ?k6 ?_; (case kF => assumption); (case k1 => with_unfolding_all rfl); (case k2 => decide); (case k3 => with_unfolding_all rfl); (case k4 => decide); (case k5 => with_unfolding_all rfl); (case k6 => intro _; with_unfolding_all rfl)); walk_say "MY COMP"))
local macro_rules | `(tactic| ktr_room) => `(tactic| first | with_reducible assumption | exact if_pos rfl | (refine (if_neg (by decide)).trans ?_; ktr_room))
local macro_rules | `(tactic| walk_at "eval Name") => `(tactic| (k_here; k_dflt (refine' name_L ?F ?L ?v ?_ ?a ?b ?c; (case L => exact rfl); (case F => assumption); (case v => ktr_room); (case a => with_unfolding_all rfl); (case b => with_unfolding_all rfl); (case c => decide); k_whole)))
section
-- K4
def partsT : Tr → List Tr
  | .arr xs => xs
  | .dict ks xs => (sortK (ks.zip xs)).map (·.2)
  | .stream ks xs _ => (sortK (ks.zip xs)).map (·.2)
  | _ => []

theorem rows_all {P : World} {S : Led} {kvs : List (Str × Value)} {xs : List Tr} (hall : TrAll P S (kvs.map (·.2)) xs) : TrAll P S ((sortK (rows3 kvs xs)).map (·.2.1)) (partsT (.dict (kvs.map (·.1)) xs)) := by
  have e : partsT (.dict (kvs.map (·.1)) xs) = (sortK (rows3 kvs xs)).map (·.2.2) := by
    show (sortK ((kvs.map (·.1)).zip xs)).map (·.2) = _
    rw [← rows3_kx]
    have := sortK_map (fun vx : Value × Tr => vx.2) (rows3 kvs xs)
    rw [this, List.map_map]; rfl
  rw [e]
  have h : ∀ r ∈ sortK (rows3 kvs xs), TrIn P S r.2.1 r.2.2 := fun r hr => rows3_tr hall r ((sortK_perm _).mem_iff.mp hr)
  generalize sortK (rows3 kvs xs) = R at h
  induction R with
  | nil => exact .nil
  | cons r R ih => exact .cons (h r (.head _)) (ih fun q hq => h q (.tail _ hq))

def PartsPost (w : World) (s : Shared) (S : Led) (x : Tr) (Q : Value → Shared → Prop) : Prop :=
  ∀ D vs n tl h' tk', Made s.heap h' tl → (D, listOf (List.toArray vs) n) ∈ tl → TrAll w S vs (partsT x) → Q (.ref D) { s with heap := h', toks := tk' }

theorem parts_dict {w : World} {dp un : Nat} {fr : Option (List Env)} {gd : Option (List Code)} {s : Shared} {S : Led} {a : Addr} {o : Obj} {kvs : List (Str × Value)} {xs : List Tr} {Q E : Value → Shared → Prop}
    (X : Foot w (hideAll s.heap (S.map (·.1)))) (hS : Stands s.heap S) (hm : (a, o) ∈ S) (lo : (a == sysModules) = false) (hd : o.IsDictOf (sK w) kvs) (hall : TrAll w S (kvs.map (·.2)) xs) (h8 : xs.length ≤ 8) (hd1 : dp + 10 < recursionLimit) (hu : un + 200 < cLine)
    (ret : PartsPost w s S (.dict (kvs.map (·.1)) xs) Q) :
    wpAny (model PySem.Challenge.rw_og0158_01.row.prog w) (ar dp un fr gd) (call (.ref 270) [.ref a]) Q E s := by
  have hcl := cLine_is
  refine wpAny_call ?_
  k_dflt (refine' enterC (binds := [(Str.ofString "value", .ref a)]) S X hS ?k6 ?k7 ?k8 ?k9 ?kB ?kD ?_ ?c2 ?c3 ?c4; (case k6 => k_is); (case k7 => k_is); (case k8 => (dsimp only; omega)); (case k9 => exact BindsTo.of_eq rfl); (case kB => exact rfl); (case kD => decide +kernel); (case c2 => exact rfl); (case c3 => exact rfl); (case c4 => exact rfl); k_whole)
  intro g' L' h' tk' cells' G' F' N' Y' l1 X' T'
  obtain ⟨mean, mg, mb, T'⟩ := T'
  obtain ⟨o1, hE, d1⟩ := CellsAre.one Y'
  subst hE
  (try simp only [List.cons_append, List.nil_append] at N')
  have hsub : ∀ p ∈ S, p ∈ (((L' + 1, o1) : Addr × Obj) :: S : Led) := fun p h => List.Mem.tail _ h
  have hx0 : TrIn w S (.ref a) (.dict (kvs.map (·.1)) xs) := .dict hm lo hd hall h8
  k_unmd
  k_fold
  k_steps
  rename Fr _ _ _ _ => F1
  rename News _ _ _ _ => N1
  have hnd : (kvs.map (·.1)).Nodup := hd.choose_spec.choose_spec.2.2.2.2
  have hlk : kvs.length = xs.length := by simpa using hall.length
  refine sorted_dict_K rfl lo F1 N1 (by tb_start) hd (by omega) ?_
  intro D e h' tk vs' ks' F2 N2 l2 hvs hp hs
  have hrl := rows_len hall hvs hp
  refine compP (fun i ys tl => tl = [] ∧ ys = ((sortK (rows3 kvs xs)).take i).map (·.2.1)) (src_list rfl (N2.isList (.head _))) ?_ ⟨X', _, _, _, T'⟩ F2 N2 (hss_one (.head _)) ?_ ?_ ?_
  · rw [hrl, sizeLine_eq, sortK_len]; simp [rows3]; omega
  · exact ⟨rfl, rfl⟩
  · intro C i v ys tl s₃ m₃ g₃ E' hi hv hJ ho X₃ F₃ N₃ hm₃
    obtain ⟨K₃, mean₃, mg₃, mb₃, T₃⟩ := X₃
    obtain ⟨r, t, hr, rfl, hval, htr, hht⟩ := rows_sorted hall hnd hvs hp hs hv
    obtain ⟨rfl, rfl⟩ := hJ
    refine wpAny_tests_nil ⟨⟨_, rfl⟩, fun _ => ?_, fun e => nomatch e⟩
    k_steps
    refine dict_item N₃ (by tb_start) hd hval ?_ (by with_unfolding_all rfl)
    refine ⟨_, _, [], _, rfl, F₃, N₃, Off.nil, rfl, ?_⟩
    rw [List.take_add_one, hr]; simp
  · intro D h' tk ys tl e F N ho2 ho3 hD hJ hy
    obtain ⟨rfl, rfl⟩ := hJ
    rw [List.take_of_length_le (by omega)] at N ho3
    show Q _ _
    refine ret D _ _ _ _ _ (made_spl (by ktr_unf) G' hS F N ?_) (.head _) (rows_all hall)
    ktn_open

theorem parts_spec {w : World} {dp un : Nat} {fr : Option (List Env)} {gd : Option (List Code)} {s : Shared} {S : Led} {v : Value} {x : Tr} {Q E : Value → Shared → Prop}
    (X : Foot w (hideAll s.heap (S.map (·.1)))) (hS : Stands s.heap S) (hx : TrIn w S v x) (hd1 : dp + 20 < recursionLimit) (hu : un + 300 < cLine)
    (ret : PartsPost w s S x Q) :
    wpAny (model PySem.Challenge.rw_og0158_01.row.prog w) (ar dp un fr gd) (call (.ref 270) [v]) Q E s := by
  have hcl := cLine_is
  obtain ⟨v0, hv, hx⟩ : ∃ v0, v = v0 ∧ TrIn w S v0 x := ⟨v, rfl, hx⟩
  have hx0 := hx
  cases hx
  case dict a o kvs xs hm lo hd hall h8 => subst hv; exact parts_dict X hS hm lo hd hall h8 (by omega) (by omega) ret
  all_goals (
    refine wpAny_call ?_
    k_dflt (refine' enterC (binds := [(Str.ofString "value", v)]) S X hS ?k6 ?k7 ?k8 ?k9 ?kB ?kD ?_ ?c2 ?c3 ?c4; (case k6 => k_is); (case k7 => k_is); (case k8 => (dsimp only; omega)); (case k9 => exact BindsTo.of_eq rfl); (case kB => exact rfl); (case kD => decide +kernel); (case c2 => exact rfl); (case c3 => exact rfl); (case c4 => exact rfl); k_whole)
    intro g' L' h' tk' cells' G' F' N' Y' l1 X' T'
    obtain ⟨mean, mg, mb, T'⟩ := T'
    obtain ⟨o1, hE, d1⟩ := CellsAre.one Y'
    subst hE
    subst hv
    (try simp only [List.cons_append, List.nil_append] at N')
    have hsub : ∀ p ∈ S, p ∈ (((L' + 1, o1) : Addr × Obj) :: S : Led) := fun p h => List.Mem.tail _ h)
  case arr a vs n xs hm hall h8 =>
    k_unmd
    k_fold
    k_steps
    rename Fr _ _ _ _ => F1
    rename News _ _ _ _ => N1
    refine list_copyK (h₀ := g') F1 N1 (N1.isList (.tail _ hm)) (fun D c h' F N l => ?_) (by rw [sizeLine_eq]; have := hall.length; simp; omega)
    show Q _ _
    refine ret D _ _ _ _ _ (made_spl (by ktr_unf) G' hS F N ?_) (.head _) hall
    ktn_open
  case stream a d c h1 h2 t1 t2 n b u1 o kvs xs hm1 hm2 hm3 lo hd hall h8 =>
    k_unmd
    k_fold
    k_steps
    rename Fr _ _ _ _ => F1
    rename News _ _ _ _ => N1
    refine parts_dict (S := S) (foot_of ⟨X', _, _, _, T'⟩ F1 N1 (by tb_rel)) (stands_of N1 (by tb_rel)) hm3 lo hd hall h8 (by dsimp only; omega) (by dsimp only; omega) ?_
    intro D vs n tl h' tk' M hmD hp
    have F2 := M.fr F1
    have N2 := M.news F1 N1
    have o2 : Off _ tl := off_fresh N1 fun p hp => (M.2 p hp).2
    show Q _ _
    exact ret D _ _ tl _ _ (made_of G' hS F2 N2 (by tb_rel) (by tb_rel) (o2.sub (by tb_rel))) hmD hp
  all_goals (
    k_unmd
    k_fold
    k_steps
    rename Fr _ _ _ _ => F1
    rename News _ _ _ _ => N1
    show Q _ _
    refine ret _ _ _ _ _ _ (made_spl (by ktr_unf) G' hS F1 N1 ?_) (.head _) .nil
    ktn_open)

section
variable {w : World} {dp un : Nat} {fr : Option (List Env)} {gd : Option (List Code)} {s : Shared} {g : Heap} {L : Addr} {m : Str → Option Value} {S news : Led} {v : Value} {x : Tr} {Q E : Value → Shared → Prop}
theorem parts_K {mean : ExcName → Option Value} {mg mb : Str → Option Value} (F : Fr g L s.heap m) (N : News g L s.heap news) (X : (hd.heap_1 w.params).In g) (T : Top hdV (looseW hdV [Str.ofString "PaperError"]) mean mg mb g) (hx : TrIn w S v x) (sub : ∀ p ∈ S, p ∈ news) (hd1 : dp + 20 < recursionLimit) (hu : un + 300 < cLine)
    (ret : ∀ D vs n tl h' tk', Off news tl → Fr g L h' m → News g L h' (tl ++ news) → (D, listOf (List.toArray vs) n) ∈ tl → TrAll w S vs (partsT x) → Q (.ref D) { s with heap := h', toks := tk' }) :
    wpAny (model PySem.Challenge.rw_og0158_01.row.prog w) (ar dp un fr gd) (call (.ref 270) [v]) Q E s :=
  parts_spec (foot_of ⟨X, _, _, _, T⟩ F N sub) (stands_of N sub) hx hd1 hu fun D vs n tl h' tk' M hm hp => ret D vs n tl h' tk' (off_fresh N fun p hp => (M.2 p hp).2) (M.fr F) (M.news F N) hm hp
end
end
section
-- KX
theorem lri_len : typeLookup (.type "list_reverseiterator") "__len__" = pure none := by rw [typeLookup_type, builtinLookup_eq_fast]; kernel_rfl
theorem lri_hint : typeLookup (.type "list_reverseiterator") "__length_hint__" = pure (some (.builtin "list_reverseiterator.__length_hint__")) := by rw [typeLookup_type, builtinLookup_eq_fast]; kernel_rfl

section
variable {prog : Program} {w : World} {A : Around} {E : Value → Shared → Prop} {s : Shared} {r : Addr}
theorem hint_rev {Q : Bool → Shared → Prop} (hT : s.TypeIs (.ref r) "list_reverseiterator") (h : Q false s) : wpAny (model prog w) A (Builtin.List.listLengthHint (.ref r)) Q E s := by
  unfold Builtin.List.listLengthHint
  refine wpAny_bind (wpAny_specialOf hT lri_len ?_)
  wp_delta
  refine wpAny_ite_split (fun hab => absurd hab (by decide +kernel)) (fun _ => ?_)
  refine wpAny_ite_split (fun hab => absurd hab (by decide +kernel)) (fun _ => ?_)
  refine wpAny_bind (wpAny_specialOf hT lri_hint ?_)
  generalize hid : ("list_reverseiterator.__length_hint__" : String) = id0
  wp_delta
  rw [show splitId id0 = some ("list_reverseiterator", "__length_hint__") from by subst hid; decide +kernel]
  subst hid
  refine wpAny_bind (wpAny_isInstance (T := "list_reverseiterator") (b := true) hT (by rw [isSubtype_type]; kernel_rfl) ?_)
  refine wpAny_ite_split (fun hab => absurd hab (by decide)) (fun _ => ?_)
  refine wpAny_ite_split (fun _ => ?_) (fun hab => absurd (by decide +kernel) hab)
  refine wpAny_ite_split (fun hab => absurd hab (by decide +kernel)) (fun _ => ?_)
  exact wpAny_pure h

/-- a source shifted by what is there -/
theorem walks_shift {I : Addr} {fp wr : List Addr} {n : Nat} {P : Nat → Value → Prop} {St : Nat → Heap → Prop} (W : Walks prog w A I fp wr n P St) (c : Nat) (P₀ : Nat → Value → Prop) :
    Walks prog w A I fp wr (c + n) (fun i v => if i < c then P₀ i v else P (i - c) v) (fun i h => c ≤ i ∧ St (i - c) h) where
  sub := W.sub
  frame := fun i h h' st hk => ⟨st.1, W.frame _ _ _ st.2 hk⟩
  item := fun i s Q E hi st hQ => W.item (i - c) s Q E (by omega) st.2 fun v h' tk hP hst hk =>
    hQ v h' tk (by rw [if_neg (Nat.not_lt.mpr st.1)]; exact hP) ⟨Nat.le_succ_of_le st.1, by rw [Nat.succ_sub st.1]; exact hst⟩ hk
  done := fun s Q E st hQ => W.done s Q E (by have := st.2; rwa [Nat.add_sub_cancel_left] at this) hQ
  self := fun i s Q E st hQ => W.self (i - c) s Q E st.2 hQ

theorem extend_rev {S I l : Addr} {ls vs : List Value} {c₀ : Nat} {Q : Value → Shared → Prop} (hh : A.handled = none) (hS : s.heap.get? S = some (listOf ls.toArray c₀)) (hI : s.heap.get? I = some (revObj l ((vs.length : Int) - 1))) (hl : s.heap.IsList l vs.toArray)
    (hSI : S ≠ I) (hSl : S ≠ l) (hlI : l ≠ I) (hz : ls.length + vs.length ≤ sizeLine)
    (hR : ∀ h' tk c', (∀ b o, b ≠ S → b ≠ I → s.heap.get? b = some o → h'.get? b = some o) → h'.get? S = some (listOf (ls ++ vs.reverse).toArray c') → Q .none { s with heap := h', toks := tk }) :
    wpAny (model prog w) A (call (.builtin "list.extend") [.ref S, .ref I]) Q E s := by
  have hT : s.TypeIs (.ref S) "list" := ⟨_, hS, rfl⟩
  have hTI : s.TypeIs (.ref I) "list_reverseiterator" := ⟨_, hI, rfl⟩
  have hW := walks_shift (Walks.listRev (prog := prog) (w := w) (A := A.in1) hh I l hlI vs.toArray) ls.length (fun i v => ls[i]? = some v)
  have hSf : S ∉ [I, l] := by simp only [List.mem_cons, List.not_mem_nil, or_false, not_or]; exact ⟨hSI, hSl⟩
  have e1 : vs.toArray.size = vs.length := by simp
  rw [e1] at hW
  refine wpAny_call (codeAny_call_builtin F.slot_list_extend.plain F.entry_list_extend (F.slot_list_extend.check _ _ _ _ _ _ _ _ hT (F.args_list_extend_2 _ _) ?_))
  show wpAny _ _ (Builtin.List.listExtendWith (.ref S) (.ref I) .none) _ _ s
  have key : ∀ (h : Heap) (c₁ tk : Nat), h.IsRevIter I l ((vs.length : Int) - 1) → h.IsList l vs.toArray → (∀ b o, b ≠ S → b ≠ I → s.heap.get? b = some o → h.get? b = some o) → h.get? S = some (listOf ls.toArray c₁) →
      codeAny (model prog w) A (.builtin "list.extend.loop" ⟨[.ref S, .ref I, .none], []⟩) (fun r s' => match r with | .ok (.ret v) => Q v s' | .ok _ => False | .error e => E e s') { s with heap := h, toks := tk } := by
    intro h c₁ tk h1 h2 hk hS₁
    refine codeAny_extend_loopS hW.toS hz S hSf .none _ ls.length _ ls.toArray c₁ rfl (Nat.le_add_right _ _) ⟨Nat.le_refl _, ?_⟩ hS₁ ⟨by simp, fun j v hj => ?_⟩ fun s' acc' c' hm hS' hacc => ?_
    · exact ⟨by rw [Nat.sub_self]; exact Nat.zero_le _, by rw [Nat.sub_self]; simpa using h1, h2⟩
    · have hj' : ls[j]? = some v := by simpa using hj
      dsimp only
      rw [if_pos (by exact (List.getElem?_eq_some_iff.mp hj').1)]; exact hj'
    · have hacc2 : acc' = (ls ++ vs.reverse).toArray := by
        have h3 : acc'.toList = ls ++ vs.reverse := by
          refine List.ext_getElem? fun j => ?_
          by_cases hj : j < ls.length + vs.length
          · obtain ⟨v, hv⟩ : ∃ v, acc'[j]? = some v := ⟨acc'[j]'(by rw [hacc.1]; exact hj), Array.getElem?_eq_getElem _⟩
            have hp := hacc.2 j v hv
            dsimp only at hp
            rw [Array.getElem?_toList, hv]
            by_cases hlt : j < ls.length
            · rw [if_pos hlt] at hp
              rw [List.getElem?_append_left hlt]; exact hp.symm
            · rw [if_neg hlt] at hp
              rw [List.getElem?_append_right (Nat.not_lt.mp hlt), List.getElem?_reverse (by omega)]
              simpa using hp.symm
          · rw [List.getElem?_eq_none (by rw [Array.length_toList, hacc.1]; omega), List.getElem?_eq_none (by simp; omega)]
        rw [← h3]
      rw [Moved.eq_with hm]
      refine hR s'.heap s'.toks c' (fun b o hb hbI e => hm.heap b o (fun hmem => ?_) (hk b o hb hbI e)) ?_
      · rcases List.mem_cons.mp hmem with e' | hmem
        · exact hb e'
        · exact hbI (List.mem_singleton.mp hmem)
      · rw [hS', hacc2]
  unfold Builtin.List.listExtendWith
  refine wpAny_bind (wpAny_typeOf hTI ?_)
  have h1 : Builtin.List.listSameRef (.ref S) (.ref I) = false := by simp [Builtin.List.listSameRef, hSI]
  simp only [h1, show (Value.type "list_reverseiterator" == Value.type "list") = false from by decide, show (Value.type "list_reverseiterator" == Value.type "tuple") = false from by decide, Bool.or_false, Bool.false_eq_true, if_false]
  have hrev : s.heap.IsRevIter I l ((vs.length : Int) - 1) := ⟨_, hI, rfl, rfl⟩
  refine wpAny_bind (wpAny_pyIter_revIter hrev ?_)
  refine wpAny_bind (wpAny_holding (hint_rev hTI ?_))
  refine wpAny_ite_split (fun hab => absurd hab (by decide +kernel)) (fun _ => wpAny_pure ⟨plainId_quiet PySem.F.plain_extend_loop _, key _ c₀ _ hrev hl (fun b o _ _ e => e) hS⟩)
end
end
section
-- KY
abbrev pairKind (prog : Program) (w : World) := tupleKind (PySem.intKind prog w)
abbrev PairRows := List (List Int × Addr × Value)
abbrev pairO (i j : Int) (t u : Tok) (n : Nat) : Obj := tupO [.int i t, .int j u] n

/-- a dict whose keys are pairs of ints -/
def PairDict (prog : Program) (w : World) (S : Led) (o : Obj) (xs : PairRows) : Prop :=
  o.ExactDict ∧ ∃ es ep, o.data = .dict es ep ∧ es.toList = xs.map (entryOfKey (pairKind prog w)) ∧ (xs.map (·.1)).Nodup ∧ ∀ x ∈ xs, ∃ ok, (x.2.1, ok) ∈ S ∧ TupKeyObj (PySem.intKind prog w) x.1 ok

theorem PairDict.mono {prog : Program} {w : World} {S S' : Led} {o : Obj} {xs : PairRows} (h : PairDict prog w S o xs) (k : ∀ p ∈ S, p ∈ S') : PairDict prog w S' o xs :=
  let ⟨a, es, ep, b, c, d, e⟩ := h
  ⟨a, es, ep, b, c, d, fun x hx => let ⟨ok, q, r⟩ := e x hx; ⟨ok, k _ q, r⟩⟩

theorem pairKey (prog : Program) (w : World) (i j : Int) (t u : Tok) (n : Nat) : TupKeyObj (PySem.intKind prog w) [i, j] (pairO i j t u n) :=
  ⟨rfl, _, n, rfl, ItemsAre.cons (intKind_is _ _ _ _) (ItemsAre.cons (intKind_is _ _ _ _) ItemsAre.nil)⟩

section
variable {prog : Program} {w : World} {A : Around} {E : Value → Shared → Prop} {s : Shared} {g : Heap} {L a d : Addr} {m : Str → Option Value} {news S : Led} {o : Obj} {xs : PairRows} {i j : Int} {t u : Tok} {n : Nat}

theorem PairDict.at {h : Heap} (P : PairDict prog w S o xs) (N : News g L h news) (hd : (d, o) ∈ news) (sub : ∀ p ∈ S, p ∈ news) : h.DictOfH (pairKind prog w) d xs :=
  let ⟨x, es, ep, b, c, e, f⟩ := P
  ⟨o, es, ep, N.get hd, x, b, c, fun y hy => let ⟨_, q, r⟩ := f y hy; r.key (N.get (sub _ q)), e⟩

theorem pair_is {h : Heap} (N : News g L h news) (hk : (a, pairO i j t u n) ∈ news) : (pairKind prog w).is h [i, j] a := (pairKey prog w i j t u n).key (N.get hk)

theorem notin_pair {Q : Value → Shared → Prop} (hu : A.units + 1 < cLine) (N : News g L s.heap news) (lo : (d == sysModules) = false) (hd : (d, o) ∈ news) (P : PairDict prog w S o xs) (sub : ∀ p ∈ S, p ∈ news) (hk : (a, pairO i j t u n) ∈ news)
    (h : ∀ tk, Q (.bool (!(atKey xs [i, j]).isSome)) { s with toks := tk }) : wpAny (model prog w) A (compareOp .NotIn (.ref a) (.ref d)) Q E s :=
  wpAny_notIn_heap (knd := pairKind prog w) (tupleKind_room_in1 hu) (pair_is N hk) lo (P.at N hd sub) (h _)
theorem in_pair {Q : Value → Shared → Prop} (hu : A.units + 1 < cLine) (N : News g L s.heap news) (lo : (d == sysModules) = false) (hd : (d, o) ∈ news) (P : PairDict prog w S o xs) (sub : ∀ p ∈ S, p ∈ news) (hk : (a, pairO i j t u n) ∈ news)
    (h : ∀ tk, Q (.bool (atKey xs [i, j]).isSome) { s with toks := tk }) : wpAny (model prog w) A (compareOp .In (.ref a) (.ref d)) Q E s :=
  wpAny_in_heap (knd := pairKind prog w) (tupleKind_room_in1 hu) (pair_is N hk) lo (P.at N hd sub) (h _)
theorem item_pair {value slice : Expr} {p : Addr × Value} {Q : Value → Shared → Prop} (hu : A.units + 1 < cLine) (N : News g L s.heap news) (hd : (d, o) ∈ news) (P : PairDict prog w S o xs) (sub : ∀ p ∈ S, p ∈ news) (hk : (a, pairO i j t u n) ∈ news)
    (hp : atKey xs [i, j] = some p) (h : ∀ tk, Q p.2 { s with toks := tk })
    (hs : subscripted slice false (.ref d) (.ref a) = operate [.ref d, .ref a] (getItem (.ref d) (.ref a)) := by with_unfolding_all rfl) (hg : ∀ r, letTemporaryGo value (.ref d) r = pure () := by intro _; with_unfolding_all rfl) :
    wpAny (model prog w) A (subscriptTail value slice (.ref d) (.ref a)) Q E s :=
  subscriptTail_builtin (P.at N hd sub).typeIs slot_dict_getitem.lookup (wpAny_getItem_heap (knd := pairKind prog w) (tupleKind_room_in1 hu) (pair_is N hk) (P.at N hd sub) hp (h _)) hs hg

theorem set_pair {v : Value} {keep : Led} {Q : Unit → Shared → Prop} (hu : A.units + 1 < cLine) (F : Fr g L s.heap m) (N : News g L s.heap news) (hd : (d, o) ∈ news) (P : PairDict prog w S o xs) (sub : ∀ p ∈ S, p ∈ keep) (hk : (a, pairO i j t u n) ∈ keep)
    (hkeep : ∀ p ∈ keep, p ∈ news ∧ p.1 ≠ d) (hsz : xs.length ≤ sizeLine)
    (h : ∀ h' o' tk, Fr g L h' m → News g L h' ((d, o') :: keep) → PairDict prog w ((a, pairO i j t u n) :: S) o' (storedH xs [i, j] a v) → Q () { s with heap := h', toks := tk }) :
    wpAny (model prog w) A (setItem (.ref d) (.ref a) v) Q E s := by
  have sub' : ∀ p ∈ S, p ∈ news := fun p hp => (hkeep p (sub p hp)).1
  refine wpAny_setItem_heap (hsz := hsz) (knd := pairKind prog w) (tupleKind_room_in1 hu) (pair_is N (hkeep _ hk).1) (P.at N hd sub') fun h' hm' hs => ?_
  obtain ⟨o', es', ep', ho', hc', hd', he', _, hn'⟩ := hm'
  refine h h' o' _ (F.change hs (N _ hd).2.1 (N.fresh hd)) (fun p hp => ?_) ⟨hc', es', ep', hd', he', hn', fun x hx => ?_⟩
  · rcases List.mem_cons.mp hp with rfl | hp
    · exact ⟨ho', (N _ hd).2.1, (N _ hd).2.2⟩
    · exact ⟨(hs.2 _ (hkeep p hp).2).trans (N p (hkeep p hp).1).1, (N p (hkeep p hp).1).2⟩
  · rcases mem_storedH hx with ⟨y, hy, e1, e2⟩ | ⟨e1, e2⟩
    · obtain ⟨_, _, _, _, _, _, f⟩ := P
      obtain ⟨oky, hmk, tk⟩ := f y hy
      exact ⟨oky, by rw [e2]; exact .tail _ hmk, by rw [e1]; exact tk⟩
    · exact ⟨_, by rw [e2]; exact .head _, by rw [e1]; exact pairKey prog w i j t u n⟩

theorem news_cons {keep : Led} (N : News g L s.heap news) (hd : (d, o) ∈ news) (hkeep : ∀ p ∈ keep, p ∈ news) : News g L s.heap ((d, o) :: keep) := fun p hp => by
  rcases List.mem_cons.mp hp with rfl | hp
  · exact N _ hd
  · exact N p (hkeep p hp)

theorem pop_keep {ls : List Value} {y : Value} {keep : Led} {Q : Value → Shared → Prop} (F : Fr g L s.heap m) (N : News g L s.heap news) (hd : (d, listOf (ls ++ [y]).toArray n) ∈ news) (hkeep : ∀ p ∈ keep, p ∈ news ∧ p.1 ≠ d) (hz : ls.length + 1 ≤ sizeLine)
    (h : ∀ h', Fr g L h' m → News g L h' ((d, listOf ls.toArray (n + 1)) :: keep) → Q y { s with heap := h' }) : wpAny (model prog w) A (call (.builtin "list.pop") [.ref d]) Q E s :=
  kl_pop F (news_cons N hd fun p hp => (hkeep p hp).1) (by simpa using kpa_last y ls) (.head fun p hp => (hkeep p hp).2) (by simpa using hz) h

theorem append_keep {ls : List Value} {y : Value} {keep : Led} {Q : Value → Shared → Prop} (F : Fr g L s.heap m) (N : News g L s.heap news) (hd : (d, listOf ls.toArray n) ∈ news) (hkeep : ∀ p ∈ keep, p ∈ news ∧ p.1 ≠ d) (hz : ls.length ≤ sizeLine)
    (h : ∀ h', Fr g L h' m → News g L h' ((d, listOf (ls ++ [y]).toArray (n + 1)) :: keep) → Q .none { s with heap := h' }) : wpAny (model prog w) A (call (.builtin "list.append") [.ref d, y]) Q E s :=
  append_K (its := ls.toArray) (n := n) (hsz := by rw [List.size_toArray]; exact hz) F (news_cons N hd fun p hp => (hkeep p hp).1) (.head fun p hp => (hkeep p hp).2) fun h' F' N' => h h' F' (by simpa using N')

theorem extend_keep {I l : Addr} {ls vs : List Value} {nl : Nat} {keep : Led} {Q : Value → Shared → Prop} (hh : A.handled = none) (F : Fr g L s.heap m) (N : News g L s.heap news) (hd : (d, listOf ls.toArray n) ∈ news) (hI : (I, revObj l ((vs.length : Int) - 1)) ∈ news) (hl : (l, listOf vs.toArray nl) ∈ news)
    (hSI : d ≠ I) (hSl : d ≠ l) (hlI : l ≠ I) (hkeep : ∀ p ∈ keep, p ∈ news ∧ p.1 ≠ d ∧ p.1 ≠ I) (hz : ls.length + vs.length ≤ sizeLine)
    (h : ∀ h' tk c', Fr g L h' m → News g L h' ((d, listOf (ls ++ vs.reverse).toArray c') :: keep) → Q .none { s with heap := h', toks := tk }) : wpAny (model prog w) A (call (.builtin "list.extend") [.ref d, .ref I]) Q E s := by
  refine extend_rev hh (N.get hd) (N.get hI) ⟨_, N.get hl, rfl, _, rfl⟩ hSI hSl hlI hz fun h' tk c' hk hS => ?_
  obtain ⟨oL, es, ep, hL, r⟩ := F.ns
  refine h h' tk c' ⟨⟨oL, es, ep, hk _ _ (Ne.symm (N _ hd).2.1) (Ne.symm (N _ hI).2.1) hL, r⟩, fun b o e => hk b o ?_ ?_ (F.keep b o e), F.above⟩ fun p hp => ?_
  · rintro rfl; have := (N _ hd).2.2; rw [e] at this; cases this
  · rintro rfl; have := (N _ hI).2.2; rw [e] at this; cases this
  · rcases List.mem_cons.mp hp with rfl | hp
    · exact ⟨hS, (N _ hd).2⟩
    · exact ⟨hk _ _ (hkeep p hp).2.1 (hkeep p hp).2.2 (N p (hkeep p hp).1).1, (N p (hkeep p hp).1).2⟩
end
end
section
-- KM
mutual
def szT : Tr → Nat
  | .arr xs => szL xs + 1
  | .dict _ xs => szL xs + 1
  | .stream _ xs _ => szL xs + 1
  | _ => 1
def szL : List Tr → Nat
  | [] => 0
  | x :: r => szT x + szL r
end
theorem szL_append : ∀ a b : List Tr, szL (a ++ b) = szL a + szL b
  | [], b => by simp [szL]
  | x :: r, b => by simp [szL, szL_append r b]; omega
theorem szL_perm {a b : List Tr} (h : a.Perm b) : szL a = szL b := by
  induction h with
  | nil => rfl
  | cons x _ ih => simp [szL, ih]
  | swap x y l => simp [szL]; omega
  | trans _ _ h1 h2 => rw [h1, h2]
theorem szL_zip {ks : List Str} {xs : List Tr} : szL ((ks.zip xs).map (·.2)) ≤ szL xs := by
  induction ks generalizing xs with
  | nil => simp [szL]
  | cons k r ih =>
    cases xs with
    | nil => simp [szL]
    | cons x t => have := ih (xs := t); simp [szL] at this ⊢; omega
theorem szT_pos (x : Tr) : 0 < szT x := by cases x <;> simp [szT]
theorem szL_len : ∀ xs : List Tr, xs.length ≤ szL xs
  | [] => Nat.le_refl _
  | x :: r => by have := szT_pos x; have := szL_len r; simp [szL]; omega
theorem szL_parts (x : Tr) : szL (partsT x) < szT x := by
  cases x with
  | arr xs => simp [partsT, szT]
  | dict ks xs =>
    have h1 := szL_perm ((sortK_perm (ks.zip xs)).map (·.2))
    have h2 := @szL_zip ks xs
    simp only [partsT, szT]; omega
  | stream ks xs b =>
    have h1 := szL_perm ((sortK_perm (ks.zip xs)).map (·.2))
    have h2 := @szL_zip ks xs
    simp only [partsT, szT]; omega
  | _ => simp [partsT, szT, szL]

mutual
def refsT : Tr → List (Int × Int)
  | .ref n g => [(n, g)]
  | .arr xs => (refsM xs).flatten
  | .dict ks xs => ((sortK (ks.zip (refsM xs))).map (·.2)).flatten
  | .stream ks xs _ => ((sortK (ks.zip (refsM xs))).map (·.2)).flatten
  | _ => []
def refsM : List Tr → List (List (Int × Int))
  | [] => []
  | x :: r => refsT x :: refsM r
end
theorem refsM_eq : ∀ xs : List Tr, refsM xs = xs.map refsT
  | [] => rfl
  | x :: r => by rw [refsM, refsM_eq r]; rfl
theorem sort_zip {α β : Type} (f : α → β) (ks : List Str) (xs : List α) : (sortK (ks.zip (xs.map f))).map (·.2) = ((sortK (ks.zip xs)).map (·.2)).map f := by
  have e : ks.zip (xs.map f) = (ks.zip xs).map fun p => (p.1, f p.2) := by rw [List.zip_map_right]; rfl
  rw [e, sortK_map, List.map_map, List.map_map]; rfl
def isRefT : Tr → Bool
  | .ref _ _ => true
  | _ => false
theorem refsT_parts {x : Tr} (h : isRefT x = false) : refsT x = ((partsT x).map refsT).flatten := by
  cases x with
  | ref n g => cases h
  | arr xs => simp only [refsT, partsT, refsM_eq]
  | dict ks xs => simp only [refsT, partsT, refsM_eq, sort_zip]
  | stream ks xs b => simp only [refsT, partsT, refsM_eq, sort_zip]
  | _ => rfl

/-- each once, in order -/
def ddp (acc : List (Int × Int)) : List (Int × Int) → List (Int × Int)
  | [] => acc
  | p :: r => if p ∈ acc then ddp acc r else ddp (acc ++ [p]) r
def refsS (xs : List Tr) : List (Int × Int) := (xs.map refsT).flatten
theorem refsS_cons (x : Tr) (xs : List Tr) : refsS (x :: xs) = refsT x ++ refsS xs := rfl
theorem refsS_append (a b : List Tr) : refsS (a ++ b) = refsS a ++ refsS b := by simp [refsS]

inductive PairsIn (S : Led) : List Value → List (Int × Int) → Prop
  | nil : PairsIn S [] []
  | cons {a : Addr} {i j : Int} {t u : Tok} {n : Nat} {vs : List Value} {ps : List (Int × Int)} : (a, pairO i j t u n) ∈ S → PairsIn S vs ps → PairsIn S (.ref a :: vs) ((i, j) :: ps)
theorem PairsIn.mono {S S' : Led} (k : ∀ p ∈ S, p ∈ S') {vs : List Value} {ps : List (Int × Int)} (h : PairsIn S vs ps) : PairsIn S' vs ps := by
  induction h with
  | nil => exact .nil
  | cons hm _ ih => exact .cons (k _ hm) ih
theorem PairsIn.length {S : Led} {vs : List Value} {ps : List (Int × Int)} (h : PairsIn S vs ps) : vs.length = ps.length := by
  induction h with
  | nil => rfl
  | cons _ _ ih => simp [ih]
theorem PairsIn.snoc {S : Led} {vs : List Value} {ps : List (Int × Int)} {a : Addr} {i j : Int} {t u : Tok} {n : Nat} (h : PairsIn S vs ps) (hm : (a, pairO i j t u n) ∈ S) : PairsIn S (vs ++ [.ref a]) (ps ++ [(i, j)]) := by
  induction h with
  | nil => exact .cons hm .nil
  | cons h _ ih => exact .cons h ih
theorem PairsIn.at {S : Led} {vs : List Value} {ps : List (Int × Int)} (h : PairsIn S vs ps) : ∀ {k : Nat} {v : Value}, vs[k]? = some v → ∃ a i j t u n, v = .ref a ∧ (a, pairO i j t u n) ∈ S ∧ ps[k]? = some (i, j) := by
  induction h with
  | nil => intro k v h; simp at h
  | cons hm _ ih =>
    intro k v h
    cases k with
    | zero => simp at h; exact ⟨_, _, _, _, _, _, h.symm, hm, rfl⟩
    | succ k => simpa using ih (k := k) (by simpa using h)
theorem PairsIn.dat {S : Led} {vs : List Value} {ps : List (Int × Int)} (h : PairsIn S vs ps) : DatAll S vs (ps.map fun p => .tuple [.int p.1, .int p.2]) := by
  induction h with
  | nil => exact .nil
  | cons hm _ ih => exact .cons (.tuple hm (.cons (.int _ _) (.cons (.int _ _) .nil))) ih

theorem TrAll.append {P : World} {S : Led} : ∀ {a : List Value} {xs : List Tr} {b : List Value} {ys : List Tr}, TrAll P S a xs → TrAll P S b ys → TrAll P S (a ++ b) (xs ++ ys)
  | _, _, _, _, .nil, h => h
  | _, _, _, _, .cons h r, k => .cons h (r.append k)

/-- the keys of the dict are the pairs -/
def KeysAre (xs : PairRows) (ps : List (Int × Int)) : Prop := xs.map (·.1) = ps.map fun p => [p.1, p.2]
theorem KeysAre.length {xs : PairRows} {ps : List (Int × Int)} (h : KeysAre xs ps) : xs.length = ps.length := by
  have := congrArg List.length h; simpa using this
theorem KeysAre.mem {xs : PairRows} {ps : List (Int × Int)} (h : KeysAre xs ps) (i j : Int) : (atKey xs [i, j]).isSome = decide ((i, j) ∈ ps) := by
  have e1 : (atKey xs [i, j]).isSome = decide ([i, j] ∈ xs.map (·.1)) := by
    clear h
    induction xs with
    | nil => simp [atKey]
    | cons x r ih =>
      by_cases hx : x.1 = [i, j]
      · simp [atKey, hx]
      · have hx' : ¬ [i, j] = x.1 := fun e => hx e.symm
        simp only [atKey, List.find?_cons, List.map_cons, List.mem_cons, hx', false_or] at ih ⊢
        rw [← ih]; simp [hx]
  rw [e1, h]
  congr 1
  refine propext ⟨fun hm => ?_, fun hm => List.mem_map.mpr ⟨(i, j), hm, rfl⟩⟩
  obtain ⟨p, hp, e⟩ := List.mem_map.mp hm
  have : p = (i, j) := by
    cases p; simp only [List.cons.injEq, and_true] at e; rw [e.1, e.2]
  rwa [← this]
theorem KeysAre.put {xs : PairRows} {ps : List (Int × Int)} {i j : Int} (h : KeysAre xs ps) (hn : (i, j) ∉ ps) (a : Addr) (v : Value) : KeysAre (storedH xs [i, j] a v) (ps ++ [(i, j)]) := by
  have h1 := h.mem i j
  have h2 : atKey xs [i, j] = none := by
    cases q : atKey xs [i, j] with
    | none => rfl
    | some x => rw [q] at h1; simp [hn] at h1
  rw [storedH_new h2]
  unfold KeysAre at h ⊢
  simp [h]
end
section
-- K5
theorem isinst_ref {w : World} {A : Around} {s : Shared} {g : Heap} {L : Addr} {m : Str → Option Value} {S news : Led} {v : Value} {x : Tr} {Q E : Value → Shared → Prop} (F : Fr g L s.heap m) (N : News g L s.heap news) (X : (hd.heap_1 w.params).In g)
    (hx : TrIn w S v x) (sub : ∀ p ∈ S, p ∈ news) (ret : ∀ tk, Q (.bool (isRefT x)) { s with toks := tk }) : wpAny (model PySem.Challenge.rw_og0158_01.row.prog w) A (call (.builtin "isinstance") [v, .ref 242]) Q E s := by
  have N' : News g L s.heap S := fun p hp => N p (sub p hp)
  cases hx
  case dict a o kvs xs hm _ hd _ _ =>
    obtain ⟨es, ep, ⟨c1, c2, c3⟩, hdat, _⟩ := hd
    obtain ⟨oc, od, odt, osl⟩ := o
    simp only at c1 c2 c3 hdat
    subst c1 c2 c3 hdat
    k_steps
    exact ret _
  all_goals (
    k_steps
    exact ret _)

theorem pair_spec {w : World} {dp un : Nat} {fr : Option (List Env)} {gd : Option (List Code)} {s : Shared} {S : Led} {v : Value} {i j : Int} {Q E : Value → Shared → Prop}
    (X : Foot w (hideAll s.heap (S.map (·.1)))) (hS : Stands s.heap S) (hx : TrIn w S v (.ref i j)) (hd : dp + 1 < recursionLimit) (hu : un + 100 < cLine)
    (ret : ∀ D t u n tl h' tk', Made s.heap h' tl → (D, pairO i j t u n) ∈ tl → Q (.ref D) { s with heap := h', toks := tk' }) :
    wpAny (model PySem.Challenge.rw_og0158_01.row.prog w) (ar dp un fr gd) (call (.ref 239) [v]) Q E s := by
  have hcl := cLine_is
  refine wpAny_call ?_
  k_dflt (refine' enter (binds := [(Str.ofString "self", v)]) S X hS ?k6 ?k7 ?k8 ?k9 ?kB ?_ ?c2 ?c3 ?c4 ?c5; (case k6 => k_is); (case k7 => k_is); (case k8 => (dsimp only; omega)); (case k9 => exact BindsTo.of_eq rfl); (case c5 => decide); (case kB => exact locs rfl); (case c2 => exact rfl); (case c3 => exact rfl); (case c4 => exact rfl); k_whole)
  intro g' L' h' G' F' N' l1 X' T'
  obtain ⟨mean, mg, mb, T'⟩ := T'
  cases hx
  k_fold
  k_steps
  rename Fr _ _ _ _ => F1
  rename News _ _ _ _ => N1
  show Q _ _
  refine ret _ _ _ _ _ _ _ (made_spl (by ktr_unf) G' hS F1 N1 ?_) (.head _)
  ktn_open

section
variable {w : World} {dp un : Nat} {fr : Option (List Env)} {gd : Option (List Code)} {s : Shared} {g : Heap} {L : Addr} {m : Str → Option Value} {S news : Led} {v : Value} {x : Tr} {Q E : Value → Shared → Prop}
theorem pair_K {mean : ExcName → Option Value} {mg mb : Str → Option Value} {i j : Int} (F : Fr g L s.heap m) (N : News g L s.heap news) (X : (hd.heap_1 w.params).In g) (T : Top hdV (looseW hdV [Str.ofString "PaperError"]) mean mg mb g) (hx : TrIn w S v (.ref i j)) (sub : ∀ p ∈ S, p ∈ news) (hd1 : dp + 1 < recursionLimit) (hu : un + 100 < cLine)
    (ret : ∀ D t u n tl h' tk', Off news tl → Fr g L h' m → News g L h' (tl ++ news) → (D, pairO i j t u n) ∈ tl → Q (.ref D) { s with heap := h', toks := tk' }) :
    wpAny (model PySem.Challenge.rw_og0158_01.row.prog w) (ar dp un fr gd) (call (.ref 239) [v]) Q E s :=
  pair_spec (foot_of ⟨X, _, _, _, T⟩ F N sub) (stands_of N sub) hx hd1 hu fun D t u n tl h' tk' M hm => ret D t u n tl h' tk' (off_fresh N fun p hp => (M.2 p hp).2) (M.fr F) (M.news F N) hm
end

def Halt (P : Prop) : Prop := P
theorem Halt.go {P : Prop} (h : Halt P) : P := h
theorem Halt.mk {P : Prop} (h : P) : Halt P := h
end
local macro_rules | `(tactic| walk_at "exec While") => `(tactic| (k_here; refine Halt.go ?_))
local macro_rules | `(tactic| walk_at "call ref") => `(tactic| (k_here; k_dflt (show wpAny _ _ (call (Value.ref 239) [_]) _ _ _); k_dflt (refine pair_K (by assumption) (by assumption) (by assumption) (by assumption) (by assumption) (by tb_rel) (by dsimp only; omega) (by dsimp only; omega) ?_); intro D' t' u' n' tl' h' tk' o' F' N' m'; k_sweep))
local macro_rules | `(tactic| walk_at "call ref") => `(tactic| (k_here; (with_reducible show wpAny _ _ (call (Value.ref 270) [_]) _ _ _); k_dflt (refine parts_K (by assumption) (by assumption) (by assumption) (by assumption) (by assumption) (by tb_rel) (by dsimp only; omega) (by dsimp only; omega) ?_); intro D' vs' n' tl' h' tk' o' F' N' m' a'; k_sweep))
local macro_rules | `(tactic| walk_at "call builtin:isinstance") => `(tactic| (k_here; (with_reducible show wpAny _ _ (call (Value.builtin "isinstance") [_, Value.ref 242]) _ _ _); k_dflt (refine isinst_ref (by assumption) (by assumption) (by assumption) (by assumption) (by tb_rel) ?_); intro tk'))
section
-- K6
def RefsPost (s : Shared) (S : Led) (x : Tr) (Q : Value → Shared → Prop) : Prop :=
  ∀ D vs n tl h' tk', Made s.heap h' tl → (D, listOf (List.toArray vs) n) ∈ tl → PairsIn (tl ++ S) vs (ddp [] (refsT x)) → Q (.ref D) { s with heap := h', toks := tk' }

/-- between the turns of references_in -/
def RefsInv (w : World) (S : Led) (x : Tr) (n : Nat) (m : Str → Option Value) (news : Led) : Prop :=
  ∃ Dl Ds Df ls ll os xsd fs nf tl xs ps, Dl ≠ Ds ∧ Dl ≠ Df ∧ Ds ≠ Df ∧ (Ds == sysModules) = false ∧ news = (Dl, listOf (List.toArray ls) ll) :: (Ds, os) :: (Df, listOf (List.toArray fs) nf) :: (tl ++ S) ∧
    m (Str.ofString "found") = some (.ref Df) ∧ m (Str.ofString "seen") = some (.ref Ds) ∧ m (Str.ofString "line") = some (.ref Dl) ∧
    (∀ p ∈ tl ++ S, p.1 ≠ Dl ∧ p.1 ≠ Ds ∧ p.1 ≠ Df) ∧ Off S tl ∧
    TrAll w S ls.reverse xs ∧ PairsIn (tl ++ S) fs ps ∧ PairDict PySem.Challenge.rw_og0158_01.row.prog w (tl ++ S) os xsd ∧ KeysAre xsd ps ∧
    n = szL xs ∧ ps.length + n ≤ szT x ∧ ddp ps (refsS xs) = ddp [] (refsT x)

theorem pairDict_nil {prog : Program} {w : World} {S : Led} {o : Obj} {K : Type} [DecidableEq K] {knd : KeyKind prog w K} (h : o.IsDictOf knd []) : PairDict prog w S o [] := by
  obtain ⟨es, ep, hc, hdat, _, hp, _⟩ := h
  have he : es.toList = [] := List.length_eq_zero_iff.mp hp.length
  exact ⟨hc, es, ep, hdat, he, List.nodup_nil, fun _ hx => by simp at hx⟩
theorem Spl.base {S tl : Led} : Spl S (tl ++ S) tl := by have := Spl.app (a := tl) (Spl.here (S := S)); rwa [List.append_nil] at this
theorem off3 {news tl : Led} {a b c : Addr} {oa ob oc : Obj} (h : Off news tl) (ha : (a, oa) ∈ news) (hb : (b, ob) ∈ news) (hc : (c, oc) ∈ news) : ∀ p ∈ tl, p.1 ≠ a ∧ p.1 ≠ b ∧ p.1 ≠ c :=
  fun p hp => ⟨(h p hp _ ha).symm, (h p hp _ hb).symm, (h p hp _ hc).symm⟩
theorem isEmpty_of_rev {P : World} {S : Led} {ls : List Value} {xs : List Tr} (h : TrAll P S ls.reverse xs) : (!ls.toArray.isEmpty) = !xs.isEmpty := by
  have := h.length
  cases ls <;> cases xs <;> simp at this ⊢
theorem pop_of_rev {P : World} {S : Led} {ls : List Value} {x : Tr} {xs : List Tr} (h : TrAll P S ls.reverse (x :: xs)) : ∃ ls' v, ls = ls' ++ [v] ∧ TrIn P S v x ∧ TrAll P S ls'.reverse xs := by
  obtain ⟨ls', v, rfl⟩ : ∃ ls' v, ls = ls' ++ [v] := by
    rcases List.eq_nil_or_concat ls with rfl | ⟨l, b, rfl⟩
    · cases h
    · exact ⟨l, b, by simp⟩
  rw [List.reverse_append] at h
  cases h with
  | cons a b => exact ⟨ls', v, rfl, a, b⟩

theorem refs_spec {w : World} {dp un : Nat} {fr : Option (List Env)} {gd : Option (List Code)} {s : Shared} {S : Led} {v : Value} {x : Tr} {Q E : Value → Shared → Prop}
    (X : Foot w (hideAll s.heap (S.map (·.1)))) (hS : Stands s.heap S) (hx : TrIn w S v x) (hsz : szT x ≤ 100000) (hd1 : dp + 30 < recursionLimit) (hu : un + 400 < cLine)
    (ret : RefsPost s S x Q) :
    wpAny (model PySem.Challenge.rw_og0158_01.row.prog w) (ar dp un fr gd) (call (.ref 277) [v]) Q E s := by
  have hcl := cLine_is
  refine wpAny_call ?_
  k_dflt (refine' enter (binds := [(Str.ofString "value", v)]) S X hS ?k6 ?k7 ?k8 ?k9 ?kB ?_ ?c2 ?c3 ?c4 ?c5; (case k6 => k_is); (case k7 => k_is); (case k8 => (dsimp only; omega)); (case k9 => exact BindsTo.of_eq rfl); (case c5 => decide); (case kB => exact locs rfl); (case c2 => exact rfl); (case c3 => exact rfl); (case c4 => exact rfl); k_whole)
  intro g' L' h' G' F' N' l1 X' T'
  obtain ⟨mean, mg, mb, T'⟩ := T'
  k_fold
  k_steps
  rename Fr _ _ _ _ => F1
  rename News _ _ _ _ => N1
  rename Obj.IsDictOf _ _ _ => hD0
  rename (_ == sysModules) = false => lo
  rename _ < _ ∧ _ < _ ∧ AllLt _ S => q2
  rename _ < _ ∧ AllLt _ S => q1
  obtain ⟨q3, q4, q5⟩ := q2
  obtain ⟨q6, q7⟩ := q1
  refine Halt.mk ?_
  refine While_inv2 (RefsInv w S x) (n₀ := szT x) F1 N1 ⟨_, _, _, [v], _, _, [], [], _, [], [x], [], Nat.ne_of_gt q3, Nat.ne_of_gt q4, Nat.ne_of_gt q6, lo, rfl, by ktr_room, by ktr_room, by ktr_room, ?_, Off.nil, .cons hx .nil, .nil, pairDict_nil hD0, rfl, by simp [szL], by simp, by simp [refsS]⟩ ?_
  · exact fun p hp => ⟨Nat.ne_of_lt (ktn_ltOf q5 p hp), Nat.ne_of_lt (ktn_ltOf q7 p hp), Nat.ne_of_lt ((by assumption : ∀ p ∈ S, p.1 < _) p hp)⟩
  · intro n m₁ news₁ h₁ tk₁ F₁ N₁ hJ
    clear lo q3 q4 q5 q6 q7
    obtain ⟨Dl, Ds, Df, ls, ll, os, xsd, fs, nf, tl, xs, ps, n1, n2, n3, lo, rfl, mf, ms, ml, ho, hoS, hxs, hps, hpd, hk, rfl, hlen, hdd⟩ := hJ
    have hl1 := hxs.length
    have hl2 := szL_len xs
    rw [List.length_reverse] at hl1
    k_steps
    rotate_left
    · rename List.isEmpty _ = _ => hemp
      rename Fr _ _ _ m₁ => F₂
      rename News _ _ _ _ => N₂
      cases xs with
      | nil => cases ls with
        | nil => simp at hemp
        | cons _ _ => simp at hl1
      | cons y xs =>
      obtain ⟨ls, v, rfl, hy, hxs2⟩ := pop_of_rev hxs
      clear hxs
      simp only [szL, refsS_cons] at *
      have hy0 := szT_pos y
      (try k_unmd)
      refine pop_keep (keep := (Ds, os) :: (Df, listOf (List.toArray fs) nf) :: (tl ++ S)) F₂ N₂ (.head _) ?_ ?_ ?_
      · intro p hp
        refine ⟨.tail _ hp, ?_⟩
        rcases List.mem_cons.mp hp with rfl | hp
        · exact n1.symm
        rcases List.mem_cons.mp hp with rfl | hp
        · exact n2.symm
        exact (ho p hp).1
      · simp at hl1 hl2; rw [sizeLine_eq]; omega
      intro h₂ F₃ N₃
      k_steps
      · rename isRefT _ = true => hr
        cases y <;> first | cases hr | skip
        rename_i i0 j0
        have hyR := hy
        cases hy
        k_steps
        rename News _ _ _ _ => N₄
        rename (_, pairO _ _ _ _ _) ∈ _ => m4
        refine notin_pair (by simp only [units_deeper]; omega) N₄ lo (by tb_start) hpd (by tb_rel) (by tb_start) ?_
        intro tk₄
        rw [hk.mem]
        by_cases hmem : (i0, j0) ∈ ps
        · simp only [hmem, decide_true, Bool.not_true]
          k_steps
          rename Fr _ _ _ _ => F₅
          rename News _ _ _ _ => N₅
          refine ⟨_, _, _, _, szL xs, rfl, F₅, fun p hp => N₅ p (?_ : p ∈ _), ?_, Dl, Ds, Df, ls, ll + 1, os, xsd, fs, nf, tl, xs, ps, n1, n2, n3, lo, rfl, by ktr_room, by ktr_room, by ktr_room, ho, hoS, hxs2, hps, hpd, hk, rfl, ?_, ?_⟩
          · tb_start
          · omega
          · omega
          · have h9 : ddp ps ((i0, j0) :: refsS xs) = ddp [] (refsT x) := hdd
            rwa [ddp, if_pos hmem] at h9
        · simp only [hmem, decide_false, Bool.not_false]
          k_steps
          rename Fr _ _ _ _ => F₅
          rename News _ _ _ _ => N₅
          rename_i D2 t2 u2 k2 tl2 h2 tk2 o2 m2
          refine set_pair (keep := (Dl, listOf (List.toArray ls) (ll + 1)) :: (Df, listOf (List.toArray fs) nf) :: (tl2 ++ (tl ++ S))) (by simp only [units_deeper]; omega) F₅ N₅ (by tb_start) hpd (by tb_rel) (by tb_start) ?_ ?_ ?_
          · have h9 := off3 o2 (a := Dl) (b := Ds) (c := Df) (by tb_start) (by tb_start) (by tb_start)
            intro p hp
            refine ⟨(by tb_rel : ∀ p ∈ (Dl, listOf (List.toArray ls) (ll + 1)) :: (Df, listOf (List.toArray fs) nf) :: (tl2 ++ (tl ++ S)), p ∈ tl2 ++ (_ ++ (Dl, listOf (List.toArray ls) (ll + 1)) :: (Ds, os) :: (Df, listOf (List.toArray fs) nf) :: (tl ++ S))) p hp, ?_⟩
            rcases List.mem_cons.mp hp with rfl | hp
            · exact n1
            rcases List.mem_cons.mp hp with rfl | hp
            · exact n3.symm
            rcases List.mem_append.mp hp with hp | hp
            · exact (h9 p hp).2.1
            · exact (ho p hp).2.1
          · rw [hk.length, sizeLine_eq]; omega
          intro h₆ o₆ tk₆ F₆ N₆ P₆
          have h9 := off3 o2 (a := Dl) (b := Ds) (c := Df) (by tb_start) (by tb_start) (by tb_start)
          k_steps
          rename Fr _ _ _ _ => F₇
          rename News _ _ _ _ => N₇
          rename_i D3 t3 u3 k3 tl3 h3 tk3 o3 m3
          have h8 := off3 o3 (a := Dl) (b := Ds) (c := Df) (by tb_start) (by tb_start) (by tb_start)
          have hfs := hps.length
          refine append_keep (keep := (Dl, listOf (List.toArray ls) (ll + 1)) :: (Ds, o₆) :: (tl3 ++ (tl2 ++ (tl ++ S)))) F₇ N₇ (by tb_start) ?_ ?_ ?_
          · intro p hp
            refine ⟨(by tb_rel : ∀ p ∈ (Dl, listOf (List.toArray ls) (ll + 1)) :: (Ds, o₆) :: (tl3 ++ (tl2 ++ (tl ++ S))), p ∈ tl3 ++ (Ds, o₆) :: (Dl, listOf (List.toArray ls) (ll + 1)) :: (Df, listOf (List.toArray fs) nf) :: (tl2 ++ (tl ++ S))) p hp, ?_⟩
            rcases List.mem_cons.mp hp with rfl | hp
            · exact n2
            rcases List.mem_cons.mp hp with rfl | hp
            · exact n3
            rcases List.mem_append.mp hp with hp | hp
            · exact (h8 p hp).2.2
            rcases List.mem_append.mp hp with hp | hp
            · exact (h9 p hp).2.2
            · exact (ho p hp).2.2
          · rw [hfs, sizeLine_eq]; omega
          intro h₈ F₈ N₈
          k_steps
          refine ⟨h₈, _, _, (Dl, listOf (List.toArray ls) (ll + 1)) :: (Ds, o₆) :: (Df, listOf (List.toArray (fs ++ [.ref D3])) (nf + 1)) :: ((tl3 ++ (tl2 ++ tl)) ++ S), szL xs, rfl, F₈, fun p hp => N₈ p ((by tb_rel : ∀ p ∈ ((Dl, listOf (List.toArray ls) (ll + 1)) :: (Ds, o₆) :: (Df, listOf (List.toArray (fs ++ [.ref D3])) (nf + 1)) :: ((tl3 ++ (tl2 ++ tl)) ++ S) : Led), p ∈ ((Df, listOf (List.toArray (fs ++ [.ref D3])) (nf + 1)) :: (Dl, listOf (List.toArray ls) (ll + 1)) :: (Ds, o₆) :: (tl3 ++ (tl2 ++ (tl ++ S))) : Led)) p hp), ?_, Dl, Ds, Df, ls, ll + 1, o₆, _, _, _, tl3 ++ (tl2 ++ tl), xs, ps ++ [(i0, j0)], n1, n2, n3, lo, rfl, by ktr_room, by ktr_room, by ktr_room, ?_, ?_, hxs2, (hps.mono (by tb_rel)).snoc (by tb_start), P₆.mono ?_, hk.put hmem _ _, rfl, ?_, ?_⟩
          · omega
          · intro p hp
            rcases List.mem_append.mp hp with hp | hp
            · rcases List.mem_append.mp hp with hp | hp
              · exact h8 p hp
              rcases List.mem_append.mp hp with hp | hp
              · exact h9 p hp
              · exact ho p (List.mem_append_left _ hp)
            · exact ho p (List.mem_append_right _ hp)
          · exact Off.append (o3.sub (by tb_rel)) (Off.append (o2.sub (by tb_rel)) hoS)
          · exact List.forall_mem_cons.mpr ⟨by tb_start, by tb_rel⟩
          · simp; omega
          · have h7 : ddp ps ((i0, j0) :: refsS xs) = ddp [] (refsT x) := hdd
            rwa [ddp, if_neg hmem] at h7
      · rename Fr _ _ _ _ => F₄
        rename News _ _ _ _ => N₄
        rename isRefT _ = false => hr
        rename TrAll _ _ _ (partsT _) => hpt
        rename Off _ _ => o4
        rename (_, listOf _ _) ∈ _ => m4
        refine krv_reversed F₄ N₄ (N₄.isList (by tb_start)) ?_
        intro I h₅ F₅ N₅ l5
        k_steps
        have hle := szL_parts y
        have hpl := hpt.length
        have hpl2 := szL_len (partsT y)
        refine extend_keep (keep := (Ds, os) :: (Df, listOf (List.toArray fs) nf) :: (tl ++ S)) rfl F₅ N₅ (by tb_start) (.head _) (by tb_start) ?_ ?_ ?_ ?_ ?_ ?_
        · exact Nat.ne_of_lt (l5 (_, _) (by tb_start))
        · exact o4 _ m4 (_, _) (.head _)
        · exact Nat.ne_of_lt (l5 (_, _) (by tb_start))
        · intro p hp
          refine ⟨.tail _ (List.mem_append_right _ (.tail _ hp)), ?_, Nat.ne_of_lt (l5 p (List.mem_append_right _ (.tail _ hp)))⟩
          rcases List.mem_cons.mp hp with rfl | hp
          · exact n1.symm
          rcases List.mem_cons.mp hp with rfl | hp
          · exact n2.symm
          exact (ho p hp).1
        · simp at hl1 hl2; rw [sizeLine_eq]; omega
        intro h₆ tk₆ c₆ F₆ N₆
        k_steps
        refine ⟨h₆, tk₆, _, _, szL (partsT y ++ xs), rfl, F₆, N₆, ?_, Dl, Ds, Df, _, c₆, os, xsd, fs, nf, tl, partsT y ++ xs, ps, n1, n2, n3, lo, rfl, by ktr_room, by ktr_room, by ktr_room, ho, hoS, ?_, hps, hpd, hk, rfl, ?_, ?_⟩
        · rw [szL_append]; omega
        · rw [List.reverse_append, List.reverse_reverse]; exact hpt.append hxs2
        · rw [szL_append]; omega
        · rw [refsS_append]
          rw [refsT_parts hr] at hdd
          exact hdd
    · show Q _ _
      rename List.isEmpty _ = _ => hemp
      rename Fr _ _ _ _ => F₂
      rename News _ _ _ _ => N₂
      have hls : ls = [] := by simpa using hemp
      subst hls
      have hxs0 : xs = [] := List.length_eq_zero_iff.mp (by rw [← hl1]; rfl)
      subst hxs0
      have hdd' : ps = ddp [] (refsT x) := hdd
      subst hdd'
      refine ret Df fs nf ((Dl, _) :: (Ds, os) :: (Df, _) :: tl) _ _ (made_spl (.cons (.cons (.cons Spl.base))) G' hS F₂ N₂ ?_) (.tail _ (.tail _ (.head _))) (hps.mono (by tb_rel))
      intro p hp q hq
      have := ho q (List.mem_append_right _ hq)
      rcases List.mem_cons.mp hp with rfl | hp
      · exact this.1
      rcases List.mem_cons.mp hp with rfl | hp
      · exact this.2.1
      rcases List.mem_cons.mp hp with rfl | hp
      · exact this.2.2
      exact hoS p hp q hq
end
section
-- KZ
section
variable {prog : Program} {w : World} {A : Around} {E : Value → Shared → Prop} {s : Shared} {env : Env} {g : Heap} {m : Str → Option Value} {news : Led}

/-- a turn's end: on to the next, or out -/
def ForEnd (g : Heap) (L : Addr) (own : Led) (Jn : (Str → Option Value) → Led → Prop) (s₁ : Shared) (Q : Flow → Shared → Prop) (f : Flow) (s₂ : Shared) : Prop :=
  match f with
  | .ret v => Q (.ret v) s₂
  | .brk => Q .next s₂
  | _ => ∃ h' tk m' news', s₂ = { s₁ with heap := h', toks := tk } ∧ Fr g L h' m' ∧ News g L h' (own ++ news') ∧ Off own news' ∧ Jn m' news'

theorem for_src {xv : Value} {src : List Addr} {n : Nat} {P : Nat → Value → Prop} {x : Str} {body : List Stmt} {Q : Flow → Shared → Prop} (J : Nat → (Str → Option Value) → Led → Prop) (srcs : Led)
    (hsrc : Src prog w A xv src n P s) (F : Fr g env.locals s.heap m) (N : News g env.locals s.heap news) (hss : ∀ b ∈ src, b ∈ srcs.map (·.1) ∨ ∃ o, g.get? b = some o) (hJs : ∀ i m led, J i m led → ∀ p ∈ srcs, p ∈ led) (hJ : J 0 m news)
    (turn : ∀ i v m₁ news₁ h tk own, i < n → P i v → J i m₁ news₁ → Off own news₁ → Fr g env.locals h (fun y => if y = x then some v else m₁ y) → News g env.locals h (own ++ news₁) →
      wpAny (model prog w) A (execs body env) (ForEnd g env.locals own (J (i + 1)) { s with heap := h, toks := tk } Q) E { s with heap := h, toks := tk })
    (done : ∀ m₁ news₁ h tk, J n m₁ news₁ → Fr g env.locals h m₁ → News g env.locals h news₁ → Q .next { s with heap := h, toks := tk }) :
    wpAny (model prog w) A (pyIter xv) (fun it s₂ => LoopAtV prog w A g env x body Q E it s₂) E s := by
  refine hsrc _ _ fun I fp wr St h₂ tk₂ W hlive hst hfp hfs hwr up => ?_
  obtain ⟨oL, esL, epL, hL, rL⟩ := id F.ns
  have hgwr : ∀ b ∈ wr, g.get? b = none := fun b hb => by
    cases q : g.get? b with
    | none => rfl
    | some o => have := hwr b hb; rw [F.keep _ _ q] at this; cases this
  refine ⟨I, fp, wr, n, P, St, m, news, J, rfl, W, ?_, hgwr, ?_, hst, ?_, ?_, hJ, ?_, ?_⟩
  · intro hm
    rcases hfs _ hm with h | h
    · rcases hss _ h with h | ⟨o, h⟩
      · obtain ⟨p, hp, e⟩ := List.mem_map.mp h
        exact (N p (hJs _ _ _ hJ p hp)).2.1 e
      · exact absurd (Heap.lt_size h) (Nat.not_lt.mpr F.above)
    · have := hwr _ h; rw [hL] at this; cases this
  · intro p hp hw
    have := hwr _ hw; rw [(N p hp).1] at this; cases this
  · exact F.keeps up
  · exact fun p hp => ⟨up _ _ (N p hp).1, (N p hp).2⟩
  · rintro i v m₁ news₁ s₁ own ⟨h, tk, rfl⟩ hi hP hJ₁ hnw hof hst₁ hoa hst' F₁ N₁
    classical
    have hsub : ∀ p ∈ own.filter (fun p => decide (p.1 ∈ wr)) ++ news₁, p ∈ own ++ news₁ := fun p hp => by
      rcases List.mem_append.mp hp with hp | hp
      · exact List.mem_append_left _ (List.mem_filter.mp hp).1
      · exact List.mem_append_right _ hp
    have hown : ∀ b ∈ wr, ∃ o, (b, o) ∈ own.filter (fun p => decide (p.1 ∈ wr)) := fun b hb => by
      obtain ⟨o, ho⟩ := hlive _ _ hst' b hb
      exact ⟨o, List.mem_filter.mpr ⟨hoa b (W.sub b hb) (hgwr b hb) o ho, by simpa using hb⟩⟩
    refine wpAny_mono (turn i v m₁ news₁ h tk (own.filter fun p => decide (p.1 ∈ wr)) hi hP hJ₁ ?_ F₁ fun p hp => N₁ p (hsub p hp)) (fun f s₂ p => ?_) fun _ _ e => e
    · intro p hp q hq e
      exact hnw p hp (e ▸ (by simpa using (List.mem_filter.mp hq).2))
    · have fin : ∀ {s₂ : Shared}, (∃ h' tk' m' news', s₂ = { s with heap := h', toks := tk' } ∧ Fr g env.locals h' m' ∧ News g env.locals h' (own.filter (fun p => decide (p.1 ∈ wr)) ++ news') ∧ Off (own.filter (fun p => decide (p.1 ∈ wr))) news' ∧ J (i + 1) m' news') →
          LoopStepU g env.locals wr own (J (i + 1)) { s with heap := h, toks := tk } .next s₂ := by
        rintro s₂ ⟨h', tk', m', news', rfl, F', N', o', hJ'⟩
        refine ⟨rfl, h', tk', m', news', rfl, F', fun p hp => ?_, fun p hp hw => ?_, hJ'⟩
        · rcases List.mem_append.mp hp with hp | hp
          · by_cases hw : p.1 ∈ wr
            · exact N' p (List.mem_append_left _ (List.mem_filter.mpr ⟨hp, by simpa using hw⟩))
            · rcases hfs _ (hof p hp) with hs | hs
              · rcases hss _ hs with hs | ⟨o, hs⟩
                · obtain ⟨q, hq, e⟩ := List.mem_map.mp hs
                  have h1 := (N₁ q (List.mem_append_right _ (hJs _ _ _ hJ₁ q hq))).1
                  have h2 := (N₁ p (List.mem_append_left _ hp)).1
                  rw [e] at h1
                  have e2 : q = p := by
                    have h3 := h1.symm.trans h2
                    cases q; cases p; simp only [Option.some.injEq] at h3 e; subst h3; subst e; rfl
                  exact e2 ▸ N' q (List.mem_append_right _ (hJs _ _ _ hJ' q hq))
                · have := (N₁ p (List.mem_append_left _ hp)).2.2; rw [hs] at this; cases this
              · exact absurd hs hw
          · exact N' p (List.mem_append_right _ hp)
        · obtain ⟨o, ho⟩ := hown _ hw
          exact o' p hp _ ho rfl
      cases f with
      | ret v => exact .ret p
      | brk => exact .brk p
      | next => exact .next (fin p)
      | cont => exact .cont (fin p)
  · intro h' tk' m' news' F' N' _ hJ'
    exact done m' news' h' tk' hJ' F' N'
end
end
section
-- K7
def maxL : List Nat → Nat
  | [] => 0
  | a :: r => max a (maxL r)
theorem maxL_perm {a b : List Nat} (h : a.Perm b) : maxL a = maxL b := by
  induction h with
  | nil => rfl
  | cons x _ ih => simp [maxL, ih]
  | swap x y l => exact Nat.max_left_comm _ _ _
  | trans _ _ h1 h2 => rw [h1, h2]
mutual
def dpT : Tr → Nat
  | .arr xs => maxL (dpM xs) + 1
  | .dict ks xs => maxL ((ks.zip (dpM xs)).map (·.2)) + 1
  | .stream ks xs _ => maxL ((ks.zip (dpM xs)).map (·.2)) + 1
  | _ => 0
def dpM : List Tr → List Nat
  | [] => []
  | x :: r => dpT x :: dpM r
end
theorem dpM_eq : ∀ xs : List Tr, dpM xs = xs.map dpT
  | [] => rfl
  | x :: r => by rw [dpM, dpM_eq r]; rfl
theorem dpT_plain {x : Tr} (h : plainT x = true) : dpT x = 0 := by cases x <;> first | rfl | cases h
theorem dpT_parts {x : Tr} (h : plainT x = false) : dpT x = maxL ((partsT x).map dpT) + 1 := by
  cases x with
  | arr xs => simp only [dpT, partsT, dpM_eq]
  | dict ks xs => simp only [dpT, partsT, dpM_eq, ← sort_zip]; rw [maxL_perm ((sortK_perm _).map _)]
  | stream ks xs b => simp only [dpT, partsT, dpM_eq, ← sort_zip]; rw [maxL_perm ((sortK_perm _).map _)]
  | _ => cases h
/-- what an entry of the line still brings -/
def stD : List (Tr × Nat) → Nat
  | [] => 0
  | (x, a) :: r => max (if dpT x = 0 then 0 else a + dpT x) (stD r)
theorem stD_append : ∀ a b : List (Tr × Nat), stD (a ++ b) = max (stD a) (stD b)
  | [], b => by simp [stD]
  | (x, k) :: r, b => by simp only [List.cons_append, stD, stD_append r b]; exact (Nat.max_assoc _ _ _).symm
theorem maxif (a m n : Nat) : max (if m = 0 then 0 else a + 1 + m) (if n = 0 then 0 else a + 1 + n) = if max m n = 0 then 0 else a + 1 + max m n := by
  rcases m with _ | m
  · simp
  · rcases n with _ | n
    · simp
    · rw [if_neg (Nat.succ_ne_zero m), if_neg (Nat.succ_ne_zero n), if_neg (Nat.ne_of_gt (Nat.lt_of_lt_of_le (Nat.succ_pos m) (Nat.le_max_left _ _))), Nat.add_max_add_left]
theorem stD_parts (a : Nat) : ∀ xs : List Tr, stD (xs.map fun x => (x, a + 1)) = if maxL (xs.map dpT) = 0 then 0 else a + 1 + maxL (xs.map dpT)
  | [] => rfl
  | x :: r => by
    have ih := stD_parts a r
    simp only [List.map_cons, stD, maxL, ih]
    exact maxif _ _ _
theorem stD_step (d k m s : Nat) : max (max d (k + 1)) (max (if m = 0 then 0 else k + 1 + m) s) = max d (max (k + (m + 1)) s) := by
  rw [Nat.max_assoc]
  congr 1
  rw [← Nat.max_assoc]
  congr 1
  split
  · rename_i h; rw [h]; exact Nat.max_eq_left (Nat.zero_le _)
  · rw [Nat.max_eq_right (Nat.le_add_right _ _)]; omega
theorem stD_rev (l : List (Tr × Nat)) : stD l.reverse = stD l := by
  induction l with
  | nil => rfl
  | cons x r ih =>
    obtain ⟨x, a⟩ := x
    rw [List.reverse_cons, stD_append, ih]
    simp only [stD]
    rw [Nat.max_eq_left (Nat.zero_le _)]
    exact Nat.max_comm _ _
def szS (xs : List (Tr × Nat)) : Nat := szL (xs.map (·.1))

inductive StackIn (P : World) (S T : Led) : List Value → List (Tr × Nat) → Prop
  | nil : StackIn P S T [] []
  | cons {a : Addr} {v : Value} {x : Tr} {k : Nat} {t : Tok} {n : Nat} {vs : List Value} {xs : List (Tr × Nat)} : (a, tupO [v, .int (k : Int) t] n) ∈ T → TrIn P S v x → StackIn P S T vs xs → StackIn P S T (.ref a :: vs) ((x, k) :: xs)
theorem StackIn.mono {P : World} {S T T' : Led} (h : ∀ p ∈ T, p ∈ T') {vs : List Value} {xs : List (Tr × Nat)} (k : StackIn P S T vs xs) : StackIn P S T' vs xs := by
  induction k with
  | nil => exact .nil
  | cons hm hx _ ih => exact .cons (h _ hm) hx ih
theorem StackIn.length {P : World} {S T : Led} {vs : List Value} {xs : List (Tr × Nat)} (k : StackIn P S T vs xs) : vs.length = xs.length := by
  induction k with
  | nil => rfl
  | cons _ _ _ ih => simp [ih]
theorem StackIn.pop {P : World} {S T : Led} {ls : List Value} {x : Tr} {k : Nat} {xs : List (Tr × Nat)} (h : StackIn P S T ls.reverse ((x, k) :: xs)) : ∃ ls' a v t n, ls = ls' ++ [.ref a] ∧ (a, tupO [v, .int (k : Int) t] n) ∈ T ∧ TrIn P S v x ∧ StackIn P S T ls'.reverse xs := by
  obtain ⟨ls', v, rfl⟩ : ∃ ls' v, ls = ls' ++ [v] := by
    rcases List.eq_nil_or_concat ls with rfl | ⟨l, b, rfl⟩
    · cases h
    · exact ⟨l, b, by simp⟩
  rw [List.reverse_append] at h
  cases h with
  | cons a b c => exact ⟨ls', _, _, _, _, rfl, a, b, c⟩

theorem kind_in {w : World} {A : Around} {s : Shared} {g : Heap} {L D : Addr} {m : Str → Option Value} {news : Led} {x : Tr} {t t1 t2 t3 : Tok} {n : Nat} {Q E : Value → Shared → Prop} (F : Fr g L s.heap m) (N : News g L s.heap news)
    (hD : (D, tupO [.str (Str.ofString "array") t1, .str (Str.ofString "dict") t2, .str (Str.ofString "stream") t3] n) ∈ news) (ret : ∀ tk, Q (.bool (!plainT x)) { s with toks := tk }) :
    wpAny (model PySem.Challenge.rw_og0158_01.row.prog w) A (compareOp .In (.str (Str.ofString (kindS x)) t) (.ref D)) Q E s := by
  refine in_tuple_strs (items := _) (ys := [Str.ofString "array", Str.ofString "dict", Str.ofString "stream"]) ⟨_, N.get hD, rfl, n, rfl⟩ (.cons _ _ (.cons _ _ (.cons _ _ .nil))) ?_
  have e : ([Str.ofString "array", Str.ofString "dict", Str.ofString "stream"].any (· == Str.ofString (kindS x))) = !plainT x := by
    cases x <;> (dsimp only [kindS, plainT]; decide +kernel)
  rw [e]
  exact ret _

local macro_rules | `(tactic| walk_at "compareOp In str ref") => `(tactic| (k_here; (with_reducible show wpAny _ _ (compareOp CmpOp.In (Value.str (Str.ofString (kindS _)) _) (Value.ref _)) _ _ _); k_dflt (refine kind_in (by assumption) (by assumption) (by tb_start) ?_); intro tk'))
local macro_rules | `(tactic| walk_at "pyIter ref") => `(tactic| (k_here; (with_reducible show wpAny _ _ (pyIter (Value.ref _)) (fun it s₂ => LoopAtV _ _ _ _ _ _ _ _ _ it s₂) _ _); refine Halt.go ?_))

def DepthPost (s : Shared) (x : Tr) (Q : Value → Shared → Prop) : Prop :=
  ∀ t h' tk', Made s.heap h' [] → Q (.int (dpT x : Int) t) { s with heap := h', toks := tk' }

/-- between the turns of depth_of -/
def DepthInv (w : World) (S : Led) (x : Tr) (n : Nat) (m : Str → Option Value) (news : Led) : Prop :=
  ∃ Dl ls ll tl xs d td, news = (Dl, listOf (List.toArray ls) ll) :: (tl ++ S) ∧ m (Str.ofString "line") = some (.ref Dl) ∧ m (Str.ofString "deepest") = some (.int (d : Nat) td) ∧
    (∀ p ∈ tl ++ S, p.1 ≠ Dl) ∧ StackIn w S (tl ++ S) ls.reverse xs ∧ n = szS xs ∧ szS xs ≤ szT x ∧ max d (stD xs) = dpT x

theorem depth_spec {w : World} {dp un : Nat} {fr : Option (List Env)} {gd : Option (List Code)} {s : Shared} {S : Led} {v : Value} {x : Tr} {Q E : Value → Shared → Prop}
    (X : Foot w (hideAll s.heap (S.map (·.1)))) (hS : Stands s.heap S) (hx : TrIn w S v x) (hsz : szT x ≤ 100000) (hd1 : dp + 30 < recursionLimit) (hu : un + 400 < cLine)
    (ret : DepthPost s x Q) :
    wpAny (model PySem.Challenge.rw_og0158_01.row.prog w) (ar dp un fr gd) (call (.ref 289) [v]) Q E s := by
  have hcl := cLine_is
  refine wpAny_call ?_
  k_dflt (refine' enter (binds := [(Str.ofString "value", v)]) S X hS ?k6 ?k7 ?k8 ?k9 ?kB ?_ ?c2 ?c3 ?c4 ?c5; (case k6 => k_is); (case k7 => k_is); (case k8 => (dsimp only; omega)); (case k9 => exact BindsTo.of_eq rfl); (case c5 => decide); (case kB => exact locs rfl); (case c2 => exact rfl); (case c3 => exact rfl); (case c4 => exact rfl); k_whole)
  intro g' L' h' G' F' N' l1 X' T'
  obtain ⟨mean, mg, mb, T'⟩ := T'
  k_fold
  k_steps
  rename Fr _ _ _ _ => F1
  rename News _ _ _ _ => N1
  refine Halt.mk ?_
  refine While_inv2 (DepthInv w S x) (n₀ := szT x) F1 N1 ⟨_, [_], _, [_], [(x, 0)], 0, _, rfl, by ktr_room, by ktr_room, ?_, .cons (.head _) hx .nil, by simp [szS, szL], by simp [szS, szL], ?_⟩ ?_
  · rename _ < _ ∧ AllLt _ S => q1
    intro p hp
    rcases List.mem_cons.mp hp with rfl | hp
    · exact Nat.ne_of_lt q1.1
    · exact Nat.ne_of_lt (ktn_ltOf q1.2 p hp)
  · simp only [stD]; split <;> omega
  · intro n m₁ news₁ h₁ tk₁ F₁ N₁ hJ
    obtain ⟨Dl, ls, ll, tl, xs, d, td, rfl, ml, md, ho, hxs, rfl, hlen, hdd⟩ := hJ
    have hl1 := hxs.length
    have hl2 := szL_len (xs.map (·.1))
    rw [List.length_reverse] at hl1
    rw [List.length_map] at hl2
    have hsz2 : szS xs = szL (xs.map (·.1)) := rfl
    k_steps
    rotate_left
    · rename List.isEmpty _ = _ => hemp
      rename Fr _ _ _ m₁ => F₂
      rename News _ _ _ _ => N₂
      cases xs with
      | nil => cases ls with
        | nil => simp at hemp
        | cons _ _ => simp at hl1
      | cons y xs =>
      obtain ⟨y, k⟩ := y
      obtain ⟨ls, a, v, t, na, rfl, hma, hy, hxs2⟩ := hxs.pop
      clear hxs hsz2
      simp only [szS, List.map_cons, szL] at *
      have hy0 := szT_pos y
      (try k_unmd)
      refine pop_keep (keep := tl ++ S) F₂ N₂ (.head _) ?_ ?_ ?_
      · exact fun p hp => ⟨.tail _ hp, ho p hp⟩
      · simp at hl1 hl2; rw [sizeLine_eq]; omega
      intro h₂ F₃ N₃
      k_steps
      · rename List.any _ _ = _ => hk9
        have hpl : plainT y = false := by
          cases y <;> first | rfl | (dsimp only at hk9; exact absurd hk9 (by decide +kernel))
        clear hk9
        rename Fr _ _ _ _ => F₄
        rename News _ _ _ _ => N₄
        rename_i Dp vs np tl2 h4 tk4 o4 m4 a4
        have hle := szL_parts y
        have hpl3 := a4.length
        have hpl2 := szL_len (partsT y)
        have hD4 := off3 o4 (a := Dl) (b := Dl) (c := Dl) (by tb_start) (by tb_start) (by tb_start)
        have hmax : (if (k : Int) + 1 > (d : Int) then (k : Int) + 1 else (d : Int)) = ((max d (k + 1) : Nat) : Int) := by split <;> omega
        refine Halt.mk (for_src (news := (Dl, listOf (List.toArray ls) (ll + 1)) :: ((tl2 ++ tl) ++ S)) (fun i m news => ∃ lsI llI tlI td5, news = (Dl, listOf (List.toArray lsI) llI) :: (tlI ++ S) ∧ (Dp, listOf (List.toArray vs) np) ∈ tlI ∧ m (Str.ofString "line") = some (.ref Dl) ∧
          m (Str.ofString "deepest") = some (.int (if (k : Int) + 1 > (d : Int) then (k : Int) + 1 else (d : Int)) td5) ∧ m (Str.ofString "above") = some (.int (k : Int) t) ∧ (∀ p ∈ tlI ++ S, p.1 ≠ Dl) ∧
          StackIn w S (tlI ++ S) lsI.reverse (((partsT y).take i).reverse.map (fun z => (z, k + 1)) ++ xs)) [(Dp, listOf (List.toArray vs) np)] (src_list rfl (N₄.isList (by tb_start))) F₄ (fun p hp => N₄ p ((by tb_rel : ∀ p ∈ (Dl, listOf (List.toArray ls) (ll + 1)) :: ((tl2 ++ tl) ++ S), p ∈ tl2 ++ _ :: (Dl, listOf (List.toArray ls) (ll + 1)) :: (tl ++ S)) p hp)) ?_ ?_ ?_ ?_ ?_)
        · intro b hb; rw [List.mem_singleton.mp hb]; exact .inl (.head _)
        · rintro i m led ⟨lsI, llI, tlI, _, rfl, hm, _⟩ p hp
          rw [List.mem_singleton.mp hp]; exact .tail _ (List.mem_append_left _ hm)
        · refine ⟨ls, ll + 1, tl2 ++ tl, _, rfl, by tb_start, by ktr_room, by ktr_room, by ktr_room, ?_, by simpa using hxs2.mono (by tb_rel)⟩
          intro p hp
          rcases List.mem_append.mp hp with hp | hp
          · rcases List.mem_append.mp hp with hp | hp
            · exact (hD4 p hp).1
            · exact ho p (List.mem_append_left _ hp)
          · exact ho p (List.mem_append_right _ hp)
        · rintro i v5 m5 news5 h5 tk5 own hi hv5 ⟨lsI, llI, tlI, td5, rfl, hm5, e1, e2, e3, ho5, hst⟩ o5 F5 N5
          have hl5 := hst.length
          simp only [List.length_append, List.length_map, List.length_reverse, List.length_take] at hl5
          k_steps
          rename Fr _ _ _ _ => F6
          rename News _ _ _ _ => N6
          rename_i Dn h6 l6
          obtain ⟨z, hz, hzt⟩ := a4.at hv5
          have hDn : Dl < Dn := l6 _ (List.mem_append_right _ (.head _))
          have hi2 : i < vs.length := hi
          refine append_keep (keep := own ++ ((Dn, tupO [v5, .int ((k : Int) + 1) (tk5 + 1)]) :: (tlI ++ S))) F6 N6 (by tb_start) ?_ ?_ ?_
          · intro p hp
            refine ⟨(by tb_rel : ∀ p ∈ own ++ ((Dn, tupO [v5, .int ((k : Int) + 1) (tk5 + 1)]) :: (tlI ++ S)), p ∈ (Dn, tupO [v5, .int ((k : Int) + 1) (tk5 + 1)]) :: (own ++ (Dl, listOf (List.toArray lsI) llI) :: (tlI ++ S))) p hp, ?_⟩
            rcases List.mem_append.mp hp with hp | hp
            · exact o5 _ (.head _) p hp
            rcases List.mem_cons.mp hp with rfl | hp
            · exact Nat.ne_of_gt hDn
            · exact ho5 p hp
          · simp at hl2; rw [sizeLine_eq]; omega
          intro h7 F7 N7
          k_steps
          refine ⟨h7, _, _, (Dl, listOf (List.toArray (lsI ++ [.ref Dn])) (llI + 1)) :: (((Dn, tupO [v5, .int ((k : Int) + 1) (tk5 + 1)]) :: tlI) ++ S), rfl, F7, fun p hp => N7 p ((by tb_rel : ∀ p ∈ own ++ ((Dl, listOf (List.toArray (lsI ++ [.ref Dn])) (llI + 1)) :: (((Dn, tupO [v5, .int ((k : Int) + 1) (tk5 + 1)]) :: tlI) ++ S)), p ∈ (Dl, listOf (List.toArray (lsI ++ [.ref Dn])) (llI + 1)) :: (own ++ ((Dn, tupO [v5, .int ((k : Int) + 1) (tk5 + 1)]) :: (tlI ++ S)))) p hp), ?_, lsI ++ [.ref Dn], llI + 1, (Dn, tupO [v5, .int ((k : Int) + 1) (tk5 + 1)]) :: tlI, td5, rfl, .tail _ hm5, by ktr_room, by ktr_room, by ktr_room, ?_, ?_⟩
          · intro p hp
            rcases List.mem_cons.mp hp with rfl | hp
            · exact o5 (Dl, listOf (List.toArray lsI) llI) (.head _)
            rcases List.mem_cons.mp hp with rfl | hp
            · exact fun q hq => Nat.ne_of_lt (l6 q (List.mem_append_left _ hq))
            · exact o5 p (.tail _ hp)
          · intro p hp
            rcases List.mem_cons.mp hp with rfl | hp
            · exact Nat.ne_of_gt hDn
            · exact ho5 p hp
          · rw [List.take_add_one, hz, List.reverse_append]
            have e9 : ((k + 1 : Nat) : Int) = (k : Int) + 1 := by omega
            simp only [Option.toList_some, List.reverse_append, List.reverse_cons, List.reverse_nil, List.nil_append, List.cons_append, List.map_cons, List.map_append]
            exact .cons (n := 0) (t := tk5 + 1) (by rw [e9]; exact .head _) hzt (hst.mono (by tb_rel))
        · rintro m5 news5 h5 tk5 ⟨lsI, llI, tlI, td5, rfl, hm5, e1, e2, e3, ho5, hst⟩ F5 N5
          rw [hmax] at e2
          rw [List.take_of_length_le (by omega)] at hst
          k_steps
          have hsr : szS ((partsT y).reverse.map (fun z => (z, k + 1)) ++ xs) = szL (partsT y) + szS xs := by
            unfold szS
            rw [List.map_append, szL_append, List.map_map]
            congr 1
            have : ((fun x : Tr × Nat => x.1) ∘ fun z => (z, k + 1)) = id := rfl
            rw [this, List.map_id]
            exact szL_perm (List.reverse_perm _)
          have hsx : szS xs = szL (xs.map (·.1)) := rfl
          refine ⟨_, _, _, _, szS ((partsT y).reverse.map (fun z => (z, k + 1)) ++ xs), rfl, F5, N5, ?_, Dl, lsI, llI, tlI, _, max d (k + 1), td5, rfl, by ktr_room, by ktr_room, ho5, hst, rfl, ?_, ?_⟩
          · rw [hsr]; omega
          · rw [hsr]; omega
          · rw [← hdd, stD_append, List.map_reverse, stD_rev, stD_parts, stD, dpT_parts hpl]
            rw [if_neg (Nat.succ_ne_zero _)]
            exact stD_step _ _ _ _
      · rename List.any _ _ = _ => hk9
        have hpl : plainT y = true := by
          cases y <;> first | rfl | (dsimp only at hk9; exact absurd hk9 (by decide +kernel))
        clear hk9
        rename Fr _ _ _ _ => F₄
        rename News _ _ _ _ => N₄
        refine ⟨_, _, _, _, szS xs, rfl, F₄, fun p hp => N₄ p ((by tb_rel : ∀ p ∈ (Dl, listOf (List.toArray ls) (ll + 1)) :: (tl ++ S), p ∈ _ :: (Dl, listOf (List.toArray ls) (ll + 1)) :: (tl ++ S)) p hp), ?_, Dl, ls, ll + 1, tl, xs, d, td, rfl, by ktr_room, by ktr_room, ho, hxs2, rfl, ?_, ?_⟩
        · show szL _ < _; omega
        · show szL _ ≤ _; omega
        · rw [stD, if_pos (dpT_plain hpl)] at hdd
          simpa using hdd
    · show Q _ _
      rename List.isEmpty _ = _ => hemp
      rename Fr _ _ _ _ => F₂
      rename News _ _ _ _ => N₂
      have hls : ls = [] := by simpa using hemp
      subst hls
      have hxs0 : xs = [] := List.length_eq_zero_iff.mp (by rw [← hl1]; rfl)
      subst hxs0
      have hdd' : d = dpT x := by simpa [stD] using hdd
      subst hdd'
      exact ret _ _ _ (made_nil G' hS F₂ N₂ (by tb_rel))
end
section
-- KA
theorem list_no_keys : typeLookup (.type "list") "keys" = pure none := by rw [typeLookup_type, builtinLookup_eq_fast]; kernel_rfl

theorem getAttrQ_keys {prog : Program} {w : World} {A : Around} {E : Value → Shared → Prop} {s : Shared} {a : Addr} {o : Obj} {xs : Array Value} {k : Nat} {Q : Option Value → Shared → Prop}
    (hx : s.heap.get? a = some o) (hc : o.cls = .type "list") (hdat : o.data = .seq xs k) (hd : o.dict = none) (hA : A.handled = none)
    (h : ∀ h' tk e, Heap.NewExcOf s.heap h' e "AttributeError" → Q none { s with heap := h', toks := tk }) :
    wpAny (model prog w) A (getAttr? (.ref a) "keys") Q E s := by
  obtain ⟨c, dct, dat, sl⟩ := o
  simp only at hc hdat hd
  subst hc hdat hd
  obtain ⟨hp, g, d, tk, os⟩ := s
  have hT : ∀ tk', (⟨hp, g, d, tk', os⟩ : Shared).TypeIs (.ref a) "list" := fun _ => ⟨_, hx, rfl⟩
  have f1 := sub_AttributeError
  have f3 := F.slot_list_getattribute.lookup
  have f4 := F.slot_list_getattribute.bind (.ref a)
  have f5 := am_list_getattr_none
  unfold getAttr? getAttrBy? getAttrBy
  repeat (any_goals (first | assumption | exact hT _ | ((with_reducible show wpAny _ _ (call (Value.builtin "list.__getattribute__") _ _) _ _ _); refine call_meets F.slot_list_getattribute (hT _) am_entry_list_getattribute (F.args_list_getattribute_2 _ _) (meets_getattribute_miss_list a xs k sl _ _ list_no_keys (by decide +kernel)) ⟨hx, hA, fun h' tk' e hx' => ?_⟩) | wp_step))
  obtain ⟨t', u', he⟩ := hx'.there
  show wpAny _ _ (getattributeRaised _ _ _ _ _ _ _) _ _ _
  unfold getattributeRaised
  repeat (any_goals (first | assumption | wp_step))
  exact h _ _ _ hx'.of

theorem upd_entry : entryFor table "dict.update.loop" = some Builtin.«dict.update.loop» := entryFor_of_tree (by kernel_rfl)
theorem upd_plain : plainId "dict.update.loop" = true := by decide +kernel

section
variable {prog : Program} {w : World} {A : Around} {E : Value → Shared → Prop} {s : Shared}

theorem pairItems_tup {a : Addr} {k x : Value} {n : Nat} {Q : List Value → Shared → Prop} (ha : s.heap.get? a = some (tupO [k, x] n)) (h : Q [k, x] s) : wpAny (model prog w) A (Builtin.Dict.pairItems (.ref a)) Q E s := by
  unfold Builtin.Dict.pairItems
  refine wpAny_bind (wpAny_typeOf (T := "tuple") ⟨_, ha, rfl⟩ ?_)
  rw [if_pos (by decide)]
  refine wpAny_bind (wpAny_seqItems ha rfl ?_)
  exact wpAny_pure h

/-- what a store into the dict at d does -/
def SetsD (prog : Program) (w : World) (c : Nat) (s : Shared) (d : Addr) (Pk : Nat → Value → Value → Prop) (Di : Nat → Obj → Prop) (n : Nat) : Prop :=
  ∀ (A' : Around) (s' : Shared) (i : Nat) (k x : Value) (o : Obj) (Q : Unit → Shared → Prop) (E : Value → Shared → Prop), A'.units ≤ c → i < n → Pk i k x → s'.heap.get? d = some o → Di i o → (∀ b o, s.heap.get? b = some o → s'.heap.get? b = some o) →
    (∀ h' o' tk, Heap.SameBut d s'.heap h' → h'.get? d = some o' → Di (i + 1) o' → Q () { s' with heap := h', toks := tk }) → wpAny (model prog w) A' (dictSet d k x) Q E s'

theorem upd_loop {d I D : Addr} {vs : List Value} {res : Value} {R : Result → Shared → Prop} {St : Nat → Heap → Prop} {Pk : Nat → Value → Value → Prop} {Di : Nat → Obj → Prop} (W : Walks prog w A.in1 I [I, D] [I] vs.length (fun i v => vs[i]? = some v) St)
    (hd : s.heap.get? d = none) (hI : s.heap.get? I = none) (hdI : d ≠ I) (hdD : d ≠ D)
    (hp : ∀ i v, vs[i]? = some v → ∃ a k x n, v = .ref a ∧ s.heap.get? a = some (tupO [k, x] n) ∧ Pk i k x)
    {c : Nat} (hc : A.units + 4 ≤ c) (set : SetsD prog w c s d Pk Di vs.length)
    (hR : ∀ h' o' tk, (∀ b o, s.heap.get? b = some o → h'.get? b = some o) → h'.get? d = some o' → Di vs.length o' → R (.ok (.ret res)) { s with heap := h', toks := tk }) :
    ∀ (k i : Nat) (h : Heap) (o : Obj) (tk : Nat), vs.length - i = k → i ≤ vs.length → St i h → (∀ b o, s.heap.get? b = some o → h.get? b = some o) → h.get? d = some o → Di i o →
      codeAny (model prog w) A (.builtin "dict.update.loop" ⟨[.ref d, .ref I, rawInt i, res], []⟩) R { s with heap := h, toks := tk } := by
  intro k
  induction k with
  | zero =>
    intro i h o tk hk hi hst hold ho hD
    have hin : i = vs.length := by omega
    subst hin
    refine codeAny_builtin upd_entry ?_
    rw [Around.under_plainId upd_plain _]
    show wpAny _ A.in1 (pyNext (.ref I) >>= _) _ _ _
    refine wpAny_bind (W.done _ _ _ hst fun h' tk' hk' => ?_)
    refine wpAny_bind (wpAny_pure (wpAny_pure ?_))
    exact hR h' o tk' (fun b o' e => hk' b o' (fun q => by rw [List.mem_singleton.mp q, hI] at e; cases e) (hold b o' e)) (hk' d o (fun q => hdI (List.mem_singleton.mp q)) ho) hD
  | succ k ih =>
    intro i h o tk hk hi hst hold ho hD
    have hlt : i < vs.length := by omega
    refine codeAny_builtin upd_entry ?_
    rw [Around.under_plainId upd_plain _]
    show wpAny _ A.in1 (pyNext (.ref I) >>= _) _ _ _
    refine wpAny_bind (W.item i _ _ _ hlt hst fun v h' tk' hP hst' hk' => ?_)
    have hold' : ∀ b o, s.heap.get? b = some o → h'.get? b = some o := fun b o' e => hk' b o' (fun q => by rw [List.mem_singleton.mp q, hI] at e; cases e) (hold b o' e)
    have ho' := hk' d o (fun q => hdI (List.mem_singleton.mp q)) ho
    obtain ⟨a, ky, x, n, rfl, ha, hPk⟩ := hp i v hP
    refine wpAny_bind (wpAny_holding (wpAny_bind (wpAny_tryCatch (pairItems_tup (hold' _ _ ha) ?_))))
    refine wpAny_holding (set _ _ i ky x o _ _ ?_ hlt hPk ho' hD hold' fun h₂ o₂ tk₂ hs ho₂ hD₂ => ?_)
    · show A.in1.units ≤ _; rw [units_in1]; omega
    refine wpAny_pure ⟨plainId_quiet upd_plain _, ?_⟩
    have e1 : (i : Int) + 1 = ((i + 1 : Nat) : Int) := by omega
    show codeAny _ A (.builtin "dict.update.loop" ⟨[.ref d, .ref I, rawInt ((i : Int) + 1), res], []⟩) R _
    rw [e1]
    refine ih (i + 1) h₂ o₂ tk₂ (by omega) hlt (W.frame _ _ _ hst' fun b hb o' e => ?_) (fun b o' e => ?_) ho₂ hD₂
    · refine hs.extBut b o' (fun q => ?_) e
      subst q
      rcases List.mem_cons.mp hb with rfl | hb
      · exact hdI rfl
      · exact hdD (List.mem_singleton.mp hb)
    · exact hs.extBut b o' (fun q => by rw [q, hd] at e; cases e) (hold' b o' e)

theorem dict_pairs {D : Addr} {vs : List Value} {nl : Nat} {Pk : Nat → Value → Value → Prop} {Di : Nat → Obj → Prop} {Q : Value → Shared → Prop} (hh : A.handled = none) (hl : s.heap.get? D = some (listOf vs.toArray nl))
    (hp : ∀ i v, vs[i]? = some v → ∃ a k x n, v = .ref a ∧ s.heap.get? a = some (tupO [k, x] n) ∧ Pk i k x)
    {c : Nat} (hc : A.units + 8 ≤ c) (set : SetsD prog w c s s.heap.objs.size Pk Di vs.length) (h0 : Di 0 { cls := .type "dict", data := .dict #[] })
    (h : ∀ h' o' tk, (∀ b o, s.heap.get? b = some o → h'.get? b = some o) → h'.get? s.heap.objs.size = some o' → Di vs.length o' → Q (.ref s.heap.objs.size) { s with heap := h', toks := tk }) :
    wpAny (model prog w) A (call (.type "dict") [.ref D]) Q E s := by
  refine callType_codes (Q₁ := fun obj s₁ => obj = .ref s.heap.objs.size ∧ s₁ = { s with heap := s.heap.push { cls := .type "dict", data := .dict #[] } }) F.kt_called_dict (F.kt_typeCall_dict_1 _) F.entry_dict_init (kt_code_dict_new _ ⟨rfl, rfl⟩) ?_
  rintro obj s₁ ⟨rfl, rfl⟩
  have hd0 : s.heap.get? s.heap.objs.size = none := fresh_top _
  have hD0 : D ≠ s.heap.objs.size := Nat.ne_of_lt (Heap.lt_size hl)
  have hnew : (s.heap.push { cls := .type "dict", data := .dict #[] }).get? s.heap.objs.size = some { cls := .type "dict", data := .dict #[] } := Heap.get?_push_size _ rfl
  have hT : ({ s with heap := s.heap.push { cls := .type "dict", data := .dict #[] } } : Shared).TypeIs (.ref s.heap.objs.size) "dict" := ⟨_, hnew, rfl⟩
  have hlist : (s.heap.push { cls := .type "dict", data := .dict #[] }).get? D = some (listOf vs.toArray nl) := Heap.get?_push_of_some _ hl
  refine ⟨hT, F.args_dict_init_2 _ _, ?_⟩
  unfold Builtin.«dict.__init__»
  refine wpAny_bind ?_
  unfold Builtin.Dict.selfAndRest
  refine wpAny_bind (wpAny_notOrdered_dict hT ?_)
  show wpAny _ _ (pure (s.heap.objs.size, [Value.ref D])) _ _ _
  refine wpAny_pure ?_
  show wpAny _ _ (Builtin.Dict.updateFrom "dict.__init__" s.heap.objs.size (.ref D) [] .none) _ _ _
  unfold Builtin.Dict.updateFrom
  refine wpAny_bind (wpAny_typeOf (T := "list") ⟨_, hlist, rfl⟩ ?_)
  rw [if_pos (by decide)]
  refine wpAny_bind (getAttrQ_keys hlist rfl rfl rfl hh fun h1 tk1 e he => ?_)
  rw [if_pos (show (none : Option Value).isNone = true from rfl)]
  refine wpAny_bind (wpAny_rule ?_)
  have hl1 : h1.IsList D vs.toArray := ⟨_, he.keeps _ _ hlist, rfl, _, rfl⟩
  have hold : ∀ b o, s.heap.get? b = some o → h1.get? b = some o := fun b o e => he.keeps _ _ (Heap.get?_push_of_some _ e)
  have hdI : s.heap.objs.size ≠ h1.objs.size := Nat.ne_of_lt (Heap.lt_size (he.keeps _ _ hnew))
  refine wpAny_bind (wpAny_pyIter_list (s := { s with heap := h1, toks := tk1 }) hl1 ?_)
  have W := Walks.list (prog := prog) (w := w) (A := A.in1.in1) hh h1.objs.size D (Nat.ne_of_lt (Heap.lt_size (he.keeps _ _ hlist))) vs.toArray
  have e1 : vs.toArray.size = vs.length := by simp
  rw [e1] at W
  refine wpAny_pure ⟨plainId_quiet upd_plain _, ?_⟩
  have hI0 : s.heap.get? h1.objs.size = none := by
    cases q : s.heap.get? h1.objs.size with
    | none => rfl
    | some o => exact absurd (Heap.lt_size (hold _ _ q)) (Nat.lt_irrefl _)
  refine upd_loop (A := A.in1) (s := s) (D := D) (vs := vs) ⟨W.sub, W.frame, fun i s Q E hi st hQ => W.item i s Q E hi st fun v h' tk hP => hQ v h' tk (by simpa using hP), W.done, W.self⟩ hd0 hI0 hdI hD0.symm hp (c := c) (by rw [units_in1]; omega) set (fun h' o' tk a b c => ?_) vs.length 0 _ _ _ (Nat.sub_zero _) (Nat.zero_le _)
    ⟨⟨_, Heap.get?_push_size _ rfl, rfl, rfl⟩, hl1.push _⟩ (fun b o e => Heap.get?_push_of_some _ (hold b o e)) (Heap.get?_push_of_some _ (he.keeps _ _ hnew)) h0
  exact ⟨rfl, h h' o' tk a b c⟩
end
end
section
-- KU
section
variable {prog : Program} {w : World} {A : Around} {E : Value → Shared → Prop} {s : Shared} {g : Heap} {L : Addr} {m : Str → Option Value} {news S : Led}

theorem stored_new {kvs : List (Str × Value)} {k : Str} (h : k ∉ kvs.map (·.1)) (v : Value) : stored kvs k v = kvs ++ [(k, v)] := by
  unfold stored
  rw [if_neg]
  intro hh
  obtain ⟨x, hx, e⟩ := List.any_eq_true.mp hh
  exact h (List.mem_map.mpr ⟨x, hx, by simpa using e⟩)

/-- dict of a list of (key, value) tuples whose keys are texts, each once -/
theorem dict_strs {D : Addr} {vs : List Value} {nl : Nat} {kvs : List (Str × Value)} {Q : Value → Shared → Prop} (hh : A.handled = none) (F : Fr g L s.heap m) (N : News g L s.heap news) (hD : (D, listOf vs.toArray nl) ∈ news)
    (hlen : vs.length = kvs.length) (hn : (kvs.map (·.1)).Nodup) (h64 : kvs.length ≤ 1000)
    (hbig : sysModules < g.objs.size) (hp : ∀ (i : Nat) (v : Value), vs[i]? = some v → ∃ a k x t n, v = .ref a ∧ (a, tupO [.str k t, x] n) ∈ news ∧ kvs[i]? = some (k, x))
    (h : ∀ d h' o' tk, (d == sysModules) = false → Fr g L h' m → News g L h' ((d, o') :: news) → (∀ p ∈ news, p.1 < d) → o'.IsDictOf (PySem.strKind prog w) kvs → Q (.ref d) { s with heap := h', toks := tk }) :
    wpAny (model prog w) A (call (.type "dict") [.ref D]) Q E s := by
  refine dict_pairs (Pk := fun i k x => ∃ y t, k = .str y t ∧ kvs[i]? = some (y, x)) (Di := fun i o => o.IsDictOf (PySem.strKind prog w) (kvs.take i)) hh (N.get hD) ?_ (Nat.le_refl _) ?_ ?_ ?_
  · intro i v hv
    obtain ⟨a, k, x, t, n, rfl, ha, hk⟩ := hp i v hv
    exact ⟨a, _, x, n, rfl, N.get ha, k, t, rfl, hk⟩
  · rintro A' s' i _ x o Q' E' hu hi ⟨y, t, rfl, hk⟩ ho hDi hold hQ'
    have hDo : s'.heap.DictOf (PySem.strKind prog w) s.heap.objs.size (kvs.take i) := Heap.dictOf_iff.mpr ⟨o, ho, hDi⟩
    refine wpAny_dictSet_pairs (PySem.strKind_is prog w y t) hDo (fun h' hm hs => ?_) (by rw [List.length_take, sizeLine_eq]; omega)
    · obtain ⟨o', ho', hd'⟩ := Heap.dictOf_iff.mp hm
      refine hQ' h' o' _ hs ho' ?_
      have hnot : y ∉ (kvs.take i).map (·.1) := by
        intro hmem
        obtain ⟨j, hj⟩ := List.mem_iff_getElem?.mp hmem
        rw [List.getElem?_map] at hj
        obtain ⟨q, hq, e⟩ := Option.map_eq_some_iff.mp hj
        rw [List.getElem?_take] at hq
        split at hq
        · rename_i hlt
          have h1 : (kvs.map (·.1))[j]? = some y := by rw [List.getElem?_map, hq]; simp [e]
          have h2 : (kvs.map (·.1))[i]? = some y := by rw [List.getElem?_map, hk]; rfl
          have := (List.getElem?_inj (List.getElem?_eq_some_iff.mp h1).1 hn).mp (h1.trans h2.symm)
          omega
        · cases hq
      rw [stored_new hnot] at hd'
      show Obj.IsDictOf _ o' (kvs.take (i + 1))
      rw [List.take_add_one, hk]
      exact hd'
  · exact ⟨#[], 0, ⟨rfl, rfl, rfl⟩, rfl, fun _ he => by simp at he, .nil, List.nodup_nil⟩
  · intro h' o' tk hold ho' hD'
    rw [hlen, List.take_length] at hD'
    exact h _ h' o' tk (F.notModules hbig) (F.keeps hold) (news_pushed F N hold ho' rfl) (fun p hp => Heap.lt_size (N p hp).1) hD'

theorem src_dict {d : Addr} {o : Obj} {kvs : List (Str × Value)} (hh : A.handled = none) (lo : (d == sysModules) = false) (N : News g L s.heap news) (hd : (d, o) ∈ news) (hD : o.IsDictOf (PySem.strKind prog w) kvs) :
    Src prog w A (.ref d) [d] kvs.length (fun i v => ∃ k x t, kvs[i]? = some (k, x) ∧ v = .str k t) s := by
  intro Q E h
  have hlt : d < s.heap.objs.size := Heap.lt_size (N.get hd)
  obtain ⟨ep, hat⟩ := (dictOf_led N hd hD).dictAt
  refine wpAny_pyIter_dict lo hat ?_
  have W := Walks.dictKeys (prog := prog) (w := w) (knd := PySem.strKind prog w) hh s.heap.objs.size d (Nat.ne_of_lt hlt) kvs ep
  refine h s.heap.objs.size _ _ _ _ s.toks ⟨W.sub, W.frame, fun i s Q E hi st hQ => W.item i s Q E hi st fun v h' tk hP => hQ v h' tk ?_, W.done, W.self⟩ (fun i h st b hb => ?_) ⟨⟨_, Heap.get?_push_size _ rfl, rfl, rfl⟩, hat.push _⟩ (fun b hb => ?_) (fun b hb => ?_) (fun b hb => ?_) (fun b o e => Heap.get?_push_of_some _ e)
  · obtain ⟨k, x, hk, his⟩ := hP
    obtain ⟨t, rfl⟩ := Value.isStrOf_shape (show Value.isStrOf k v = true from his)
    exact ⟨k, x, t, hk, rfl⟩
  · rw [List.mem_singleton.mp hb]; obtain ⟨o, ho, _⟩ := st.1; exact ⟨o, ho⟩
  · show b < (s.heap.push _).objs.size
    rw [Heap.size_push]
    rcases List.mem_cons.mp hb with rfl | hb
    · exact Nat.lt_succ_self _
    · rw [List.mem_singleton.mp hb]; exact Nat.lt_succ_of_lt hlt
  · rcases List.mem_cons.mp hb with rfl | hb
    · exact .inr (.head _)
    · exact .inl hb
  · rw [List.mem_singleton.mp hb]; exact fresh_top _

/-! tables: pairs to pairs -/
end
abbrev Tab := List ((Int × Int) × (Int × Int))
def tget : Tab → Int × Int → Option (Int × Int)
  | [], _ => none
  | (k, v) :: r, p => if k = p then some v else tget r p
inductive TabRows (S : Led) : PairRows → Tab → Prop
  | nil : TabRows S [] []
  | cons {b ka : Addr} {i j x y : Int} {t u : Tok} {n : Nat} {xs : PairRows} {T : Tab} : (b, pairO i j t u n) ∈ S → TabRows S xs T → TabRows S (([x, y], ka, .ref b) :: xs) (((x, y), (i, j)) :: T)
theorem TabRows.mono {S S' : Led} (k : ∀ p ∈ S, p ∈ S') {xs : PairRows} {T : Tab} (h : TabRows S xs T) : TabRows S' xs T := by
  induction h with
  | nil => exact .nil
  | cons hm _ ih => exact .cons (k _ hm) ih
theorem TabRows.get {S : Led} {xs : PairRows} {T : Tab} (h : TabRows S xs T) (x y : Int) :
    (tget T (x, y) = none ∧ atKey xs [x, y] = none) ∨ ∃ i j ka b t u n, tget T (x, y) = some (i, j) ∧ atKey xs [x, y] = some (ka, .ref b) ∧ (b, pairO i j t u n) ∈ S := by
  induction h with
  | nil => exact .inl ⟨rfl, rfl⟩
  | @cons b ka i j x' y' t u n xs T hm _ ih =>
    by_cases e : (x', y') = (x, y)
    · have e1 : x' = x := congrArg Prod.fst e
      have e2 : y' = y := congrArg Prod.snd e
      subst e1 e2
      exact .inr ⟨i, j, ka, b, t, u, n, by simp [tget], by simp [atKey], hm⟩
    · have e' : ¬ [x', y'] = [x, y] := fun q => e (by simp only [List.cons.injEq, and_true] at q; rw [q.1, q.2])
      have h1 : tget (((x', y'), (i, j)) :: T) (x, y) = tget T (x, y) := by simp only [tget, if_neg e]
      have h2 : atKey (([x', y'], ka, Value.ref b) :: xs) [x, y] = atKey xs [x, y] := by simp only [atKey, List.find?_cons, e', decide_false]
      rw [h1, h2]; exact ih
def TabIn (prog : Program) (w : World) (S : Led) (d : Addr) (T : Tab) : Prop :=
  (d == sysModules) = false ∧ ∃ o xs, (d, o) ∈ S ∧ PairDict prog w S o xs ∧ TabRows S xs T
theorem TabIn.mono {prog : Program} {w : World} {S S' : Led} (k : ∀ p ∈ S, p ∈ S') {d : Addr} {T : Tab} (h : TabIn prog w S d T) : TabIn prog w S' d T :=
  let ⟨a, o, xs, b, c, e⟩ := h
  ⟨a, o, xs, k _ b, c.mono k, e.mono k⟩

mutual
def renT (T : Tab) : Tr → Tr
  | .ref n g => match tget T (n, g) with
    | none => .none
    | some p => .ref p.1 p.2
  | .arr xs => .arr (renL T xs)
  | .dict ks xs => .dict (((ks.zip (renL T xs)).filter fun p => !isNil p.2).map (·.1)) (((ks.zip (renL T xs)).filter fun p => !isNil p.2).map (·.2))
  | .stream ks xs b => .stream (((ks.zip (renL T xs)).filter fun p => !isNil p.2).map (·.1)) (((ks.zip (renL T xs)).filter fun p => !isNil p.2).map (·.2)) b
  | x => x
def renL (T : Tab) : List Tr → List Tr
  | [] => []
  | x :: r => renT T x :: renL T r
end
theorem renL_eq (T : Tab) : ∀ xs : List Tr, renL T xs = xs.map (renT T)
  | [] => rfl
  | x :: r => by rw [renL, renL_eq T r]; rfl
theorem renT_plain (T : Tab) {x : Tr} (h : plainT x = true) (h2 : isRefT x = false) : renT T x = x := by cases x <;> simp_all [renT, plainT, isRefT]
end
section
-- K9
section
variable {w : World} {A : Around} {s : Shared} {x dx : Addr} {R : Result → Shared → Prop}

theorem init_end {h g h2 : Heap} {L : Addr} {m : Str → Option Value} {C : Addr} {od od' : Obj} (G : ∀ b o, h.get? b = some o → b ∉ [(x, instObj C dx), (dx, od)].map (·.1) → g.get? b = some o) (hx : h.get? x = some (instObj C dx))
    (F : Fr g L h2 m) (N : News g L h2 [(x, instObj C dx), (dx, od')]) : (∀ b o, b ≠ dx → h.get? b = some o → h2.get? b = some o) ∧ h2.get? dx = some od' := by
  refine ⟨fun b o hb e => ?_, (N _ (.tail _ (.head _))).1⟩
  by_cases h1 : b = x
  · subst h1
    rw [hx] at e; cases e
    exact (N _ (.head _)).1
  · refine F.keep b o (G b o e ?_)
    simp only [List.map_cons, List.map_nil, List.mem_cons, List.not_mem_nil, or_false, not_or]
    exact ⟨h1, hb⟩

theorem init_ref {i j : Int} {t u : Tok} (X : Foot w (hideAll s.heap ([(x, instObj 242 dx), (dx, dictOf [] 0)].map (·.1)))) (hx : s.heap.get? x = some (instObj 242 dx)) (hdx : s.heap.get? dx = some (dictOf [] 0)) (hlt : @LT.lt Nat _ dx x) (hroom : A.depth < recursionLimit)
    (ret : ∀ h' h1 h2 t1 t2 n t' u' tk, (∀ b o, b ≠ dx → s.heap.get? b = some o → h'.get? b = some o) → h'.get? dx = some (dictOf [⟨h1, .str (Str.ofString "number") t1, .int i t'⟩, ⟨h2, .str (Str.ofString "generation") t2, .int j u'⟩] n) → R (.ok (.ret .none)) { s with heap := h', toks := tk }) :
    codeAny (model PySem.Challenge.rw_og0158_01.row.prog w) A (.call (.ref 232) ⟨[.ref x, .int i t, .int j u], []⟩) R s := by
  k_dflt (refine' enter (binds := [(Str.ofString "self", .ref x), (Str.ofString "number", .int i t), (Str.ofString "generation", .int j u)]) [(x, instObj 242 dx), (dx, dictOf [] 0)] X ?km ?k6 ?k7 ?k8 ?k9 ?kB ?_ ?c2 ?c3 ?c4 ?c5; (case km => exact fun p hp => by rcases List.mem_cons.mp hp with rfl | hp; exact hx; rw [List.mem_singleton.mp hp]; exact hdx); (case k6 => k_is); (case k7 => k_is); (case k8 => exact hroom); (case k9 => exact BindsTo.of_eq rfl); (case c5 => decide); (case kB => exact locs rfl); (case c2 => exact rfl); (case c3 => exact rfl); (case c4 => exact rfl); k_whole)
  intro g' L' h' G' F' N' l1 X' T'
  obtain ⟨mean, mg, mb, T'⟩ := T'
  k_fold
  k_steps
  rename Fr _ _ _ _ => F2
  rename News _ _ _ _ => N2
  obtain ⟨a, b⟩ := init_end G' hx F2 N2
  exact ret _ _ _ _ _ _ _ _ _ a b

theorem init_name {z : Str} {t : Tok} (X : Foot w (hideAll s.heap ([(x, instObj 171 dx), (dx, dictOf [] 0)].map (·.1)))) (hx : s.heap.get? x = some (instObj 171 dx)) (hdx : s.heap.get? dx = some (dictOf [] 0)) (hlt : @LT.lt Nat _ dx x) (hroom : A.depth < recursionLimit)
    (ret : ∀ h' h1 t1 t' n tk, (∀ b o, b ≠ dx → s.heap.get? b = some o → h'.get? b = some o) → h'.get? dx = some (dictOf [⟨h1, .str (Str.ofString "text") t1, .str z t'⟩] n) → R (.ok (.ret .none)) { s with heap := h', toks := tk }) :
    codeAny (model PySem.Challenge.rw_og0158_01.row.prog w) A (.call (.ref 168) ⟨[.ref x, .str z t], []⟩) R s := by
  k_dflt (refine' enter (binds := [(Str.ofString "self", .ref x), (Str.ofString "text", .str z t)]) [(x, instObj 171 dx), (dx, dictOf [] 0)] X ?km ?k6 ?k7 ?k8 ?k9 ?kB ?_ ?c2 ?c3 ?c4 ?c5; (case km => exact fun p hp => by rcases List.mem_cons.mp hp with rfl | hp; exact hx; rw [List.mem_singleton.mp hp]; exact hdx); (case k6 => k_is); (case k7 => k_is); (case k8 => exact hroom); (case k9 => exact BindsTo.of_eq rfl); (case c5 => decide); (case kB => exact locs rfl); (case c2 => exact rfl); (case c3 => exact rfl); (case c4 => exact rfl); k_whole)
  intro g' L' h' G' F' N' l1 X' T'
  obtain ⟨mean, mg, mb, T'⟩ := T'
  k_fold
  k_steps
  rename Fr _ _ _ _ => F2
  rename News _ _ _ _ => N2
  obtain ⟨a, b⟩ := init_end G' hx F2 N2
  exact ret _ _ _ _ _ _  a b

theorem init_string {z : Array UInt8} {t : Tok} {b : Bool} (X : Foot w (hideAll s.heap ([(x, instObj 193 dx), (dx, dictOf [] 0)].map (·.1)))) (hx : s.heap.get? x = some (instObj 193 dx)) (hdx : s.heap.get? dx = some (dictOf [] 0)) (hlt : @LT.lt Nat _ dx x) (hroom : A.depth < recursionLimit)
    (ret : ∀ h' h1 h2 t1 t2 t' n tk, (∀ b o, b ≠ dx → s.heap.get? b = some o → h'.get? b = some o) → h'.get? dx = some (dictOf [⟨h1, .str (Str.ofString "octets") t1, .bytes z t'⟩, ⟨h2, .str (Str.ofString "is_hex") t2, .bool b⟩] n) → R (.ok (.ret .none)) { s with heap := h', toks := tk }) :
    codeAny (model PySem.Challenge.rw_og0158_01.row.prog w) A (.call (.ref 190) ⟨[.ref x, .bytes z t, .bool b], []⟩) R s := by
  k_dflt (refine' enter (binds := [(Str.ofString "self", .ref x), (Str.ofString "octets", .bytes z t), (Str.ofString "is_hex", .bool b)]) [(x, instObj 193 dx), (dx, dictOf [] 0)] X ?km ?k6 ?k7 ?k8 ?k9 ?kB ?_ ?c2 ?c3 ?c4 ?c5; (case km => exact fun p hp => by rcases List.mem_cons.mp hp with rfl | hp; exact hx; rw [List.mem_singleton.mp hp]; exact hdx); (case k6 => k_is); (case k7 => k_is); (case k8 => exact hroom); (case k9 => exact binds_K (K := hd.heap_1 w.params) (fun b o e => of_hideAll _ (X.k b o e)) rfl (by k_is) rfl rfl rfl); (case c5 => decide); (case kB => exact locs rfl); (case c2 => exact rfl); (case c3 => exact rfl); (case c4 => exact rfl); k_whole)
  intro g' L' h' G' F' N' l1 X' T'
  obtain ⟨mean, mg, mb, T'⟩ := T'
  k_fold
  k_steps
  rename Fr _ _ _ _ => F2
  rename News _ _ _ _ => N2
  obtain ⟨a, b⟩ := init_end G' hx F2 N2
  exact ret _ _ _ _ _ _ _ _  a b

theorem init_stream {z : Array UInt8} {t : Tok} {c : Addr} (X : Foot w (hideAll s.heap ([(x, instObj 214 dx), (dx, dictOf [] 0)].map (·.1)))) (hx : s.heap.get? x = some (instObj 214 dx)) (hdx : s.heap.get? dx = some (dictOf [] 0)) (hlt : @LT.lt Nat _ dx x) (hroom : A.depth < recursionLimit)
    (ret : ∀ h' h1 h2 t1 t2 t' n tk, (∀ b o, b ≠ dx → s.heap.get? b = some o → h'.get? b = some o) → h'.get? dx = some (dictOf [⟨h1, .str (Str.ofString "head") t1, .ref c⟩, ⟨h2, .str (Str.ofString "octets") t2, .bytes z t'⟩] n) → R (.ok (.ret .none)) { s with heap := h', toks := tk }) :
    codeAny (model PySem.Challenge.rw_og0158_01.row.prog w) A (.call (.ref 211) ⟨[.ref x, .ref c, .bytes z t], []⟩) R s := by
  k_dflt (refine' enter (binds := [(Str.ofString "self", .ref x), (Str.ofString "head", .ref c), (Str.ofString "octets", .bytes z t)]) [(x, instObj 214 dx), (dx, dictOf [] 0)] X ?km ?k6 ?k7 ?k8 ?k9 ?kB ?_ ?c2 ?c3 ?c4 ?c5; (case km => exact fun p hp => by rcases List.mem_cons.mp hp with rfl | hp; exact hx; rw [List.mem_singleton.mp hp]; exact hdx); (case k6 => k_is); (case k7 => k_is); (case k8 => exact hroom); (case k9 => exact BindsTo.of_eq rfl); (case c5 => decide); (case kB => exact locs rfl); (case c2 => exact rfl); (case c3 => exact rfl); (case c4 => exact rfl); k_whole)
  intro g' L' h' G' F' N' l1 X' T'
  obtain ⟨mean, mg, mb, T'⟩ := T'
  k_fold
  k_steps
  rename Fr _ _ _ _ => F2
  rename News _ _ _ _ => N2
  obtain ⟨a, b⟩ := init_end G' hx F2 N2
  exact ret _ _ _ _ _ _ _ _  a b

theorem keep_but {g h h' : Heap} {L d : Addr} {m : Str → Option Value} {news : Led} {o : Obj} (F : Fr g L h m) (N : News g L h news) (hd : (d, o) ∈ news) (k : ∀ b o, b ≠ d → h.get? b = some o → h'.get? b = some o) : Fr g L h' m := by
  obtain ⟨oL, es, ep, hL, r⟩ := F.ns
  exact ⟨⟨oL, es, ep, k _ _ (Ne.symm (N _ hd).2.1) hL, r⟩, fun b o e => k b o (fun q => by have := (N _ hd).2.2; rw [← q, e] at this; cases this) (F.keep b o e), F.above⟩
theorem keep_news {g h h' : Heap} {L d : Addr} {news keep : Led} {o o' : Obj} (N : News g L h news) (hd : (d, o) ∈ news) (k : ∀ b o, b ≠ d → h.get? b = some o → h'.get? b = some o) (ho : h'.get? d = some o') (hk : ∀ p ∈ keep, p ∈ news ∧ p.1 ≠ d) : News g L h' ((d, o') :: keep) := fun p hp => by
  rcases List.mem_cons.mp hp with rfl | hp
  · exact ⟨ho, (N _ hd).2⟩
  · exact ⟨k _ _ (hk p hp).2 (N p (hk p hp).1).1, (N p (hk p hp).1).2⟩

/-- what a new instance hands on -/
def MadePost (g : Heap) (L : Addr) (m : Str → Option Value) (news : Led) (s : Shared) (C : Addr) (D : Obj → Prop) (Q : Value → Shared → Prop) : Prop :=
  ∀ x dx o h' tk, Off news [(x, instObj C dx), (dx, o)] → Fr g L h' m → News g L h' ((x, instObj C dx) :: (dx, o) :: news) → D o → Q (.ref x) { s with heap := h', toks := tk }

theorem new_obj {g : Heap} {L C fI : Addr} {m : Str → Option Value} {news : Led} {pos : List Value} {D : Obj → Prop} {Q E : Value → Shared → Prop} (F : Fr g L s.heap m) (X : Foot w g) (N : News g L s.heap news)
    (hm : makesIn (hd.heap_1 w.params) C = true) (hi : findIn (hd.heap_1 w.params) (.ref C) "__init__" = some (some (.ref fI))) (hf : isFn (hd.heap_1 w.params) (.ref fI) = true) (hr : A.depth + 1 < recursionLimit)
    (init : ∀ (A' : Around) (s' : Shared) (x dx : Addr) (R : Result → Shared → Prop), A'.depth < recursionLimit → Foot w (hideAll s'.heap ([(x, instObj C dx), (dx, dictOf [] 0)].map (·.1))) → s'.heap.get? x = some (instObj C dx) → s'.heap.get? dx = some (dictOf [] 0) → @LT.lt Nat _ dx x →
      (∀ h' o tk, (∀ b o, b ≠ dx → s'.heap.get? b = some o → h'.get? b = some o) → h'.get? dx = some o → D o → R (.ok (.ret .none)) { s' with heap := h', toks := tk }) → codeAny (model PySem.Challenge.rw_og0158_01.row.prog w) A' (.call (.ref fI) ⟨.ref x :: pos, []⟩) R s')
    (ret : MadePost g L m news s C D Q) :
    wpAny (model PySem.Challenge.rw_og0158_01.row.prog w) A (call (.ref C) pos) Q E s := by
  refine call_cls F X.k N hm hi hf fun x dx h' F' N' l1 l2 => init _ _ x dx _ (by rw [depth_under_make]; exact hr) (foot_of X F' N' ?_) (N'.get (.head _)) (N'.get (.tail _ (.head _))) l2 fun h2 o tk k ho hD => ⟨rfl, ?_⟩
  · intro p hp
    rcases List.mem_cons.mp hp with rfl | hp
    · exact .head _
    · rw [List.mem_singleton.mp hp]; exact .tail _ (.head _)
  · have hmem : (dx, dictOf [] 0) ∈ ((x, instObj C dx) :: (dx, dictOf [] 0) :: news : Led) := .tail _ (.head _)
    have N2 : News g L h2 ((dx, o) :: (x, instObj C dx) :: news) := keep_news N' hmem k ho fun p hp => by
      rcases List.mem_cons.mp hp with rfl | hp
      · exact ⟨.head _, Nat.ne_of_gt l2⟩
      · exact ⟨.tail _ (.tail _ hp), Nat.ne_of_lt (l1 p hp)⟩
    refine ret x dx o h2 tk ?_ (keep_but F' N' hmem k) (fun p hp => N2 p ?_) hD
    · intro p hp q hq
      rcases List.mem_cons.mp hp with rfl | hp
      · exact Nat.ne_of_lt (Nat.lt_trans (l1 q hq) l2)
      · rw [List.mem_singleton.mp hp]; exact Nat.ne_of_lt (l1 q hq)
    · rcases List.mem_cons.mp hp with rfl | hp
      · exact .tail _ (.head _)
      rcases List.mem_cons.mp hp with rfl | hp
      · exact .head _
      · exact .tail _ (.tail _ hp)
end
section
variable {w : World} {A : Around} {s : Shared} {g : Heap} {L : Addr} {m : Str → Option Value} {news : Led} {Q E : Value → Shared → Prop}
theorem new_ref {i j : Int} {t u : Tok} (F : Fr g L s.heap m) (X : Foot w g) (N : News g L s.heap news) (hr : A.depth + 1 < recursionLimit)
    (ret : MadePost g L m news s 242 (fun o => ∃ h1 h2 t1 t2 n t' u', o = dictOf [⟨h1, .str (Str.ofString "number") t1, .int i t'⟩, ⟨h2, .str (Str.ofString "generation") t2, .int j u'⟩] n) Q) :
    wpAny (model PySem.Challenge.rw_og0158_01.row.prog w) A (call (.ref 242) [.int i t, .int j u]) Q E s :=
  new_obj F X N (by k_is) (by k_is) (by k_is) hr (fun A' s' x dx R hr' X' hx hdx hlt k => init_ref X' hx hdx hlt hr' fun h' h1 h2 t1 t2 n t' u' tk a b => k h' _ tk a b ⟨h1, h2, t1, t2, n, t', u', rfl⟩) ret
theorem new_name {z : Str} {t : Tok} (F : Fr g L s.heap m) (X : Foot w g) (N : News g L s.heap news) (hr : A.depth + 1 < recursionLimit)
    (ret : MadePost g L m news s 171 (fun o => ∃ h1 t1 n t', o = dictOf [⟨h1, .str (Str.ofString "text") t1, .str z t'⟩] n) Q) :
    wpAny (model PySem.Challenge.rw_og0158_01.row.prog w) A (call (.ref 171) [.str z t]) Q E s :=
  new_obj F X N (by k_is) (by k_is) (by k_is) hr (fun A' s' x dx R hr' X' hx hdx hlt k => init_name X' hx hdx hlt hr' fun h' h1 t1 t' n tk a b => k h' _ tk a b ⟨h1, t1, n, t', rfl⟩) ret
theorem new_string {z : Array UInt8} {b : Bool} {t : Tok} (F : Fr g L s.heap m) (X : Foot w g) (N : News g L s.heap news) (hr : A.depth + 1 < recursionLimit)
    (ret : MadePost g L m news s 193 (fun o => ∃ h1 h2 t1 t2 n t', o = dictOf [⟨h1, .str (Str.ofString "octets") t1, .bytes z t'⟩, ⟨h2, .str (Str.ofString "is_hex") t2, .bool b⟩] n) Q) :
    wpAny (model PySem.Challenge.rw_og0158_01.row.prog w) A (call (.ref 193) [.bytes z t, .bool b]) Q E s :=
  new_obj F X N (by k_is) (by k_is) (by k_is) hr (fun A' s' x dx R hr' X' hx hdx hlt k => init_string X' hx hdx hlt hr' fun h' h1 h2 t1 t2 t' n tk a b => k h' _ tk a b ⟨h1, h2, t1, t2, n, t', rfl⟩) ret
theorem new_stream {z : Array UInt8} {c : Addr} {t : Tok} (F : Fr g L s.heap m) (X : Foot w g) (N : News g L s.heap news) (hr : A.depth + 1 < recursionLimit)
    (ret : MadePost g L m news s 214 (fun o => ∃ h1 h2 t1 t2 n t', o = dictOf [⟨h1, .str (Str.ofString "head") t1, .ref c⟩, ⟨h2, .str (Str.ofString "octets") t2, .bytes z t'⟩] n) Q) :
    wpAny (model PySem.Challenge.rw_og0158_01.row.prog w) A (call (.ref 214) [.ref c, .bytes z t]) Q E s :=
  new_obj F X N (by k_is) (by k_is) (by k_is) hr (fun A' s' x dx R hr' X' hx hdx hlt k => init_stream X' hx hdx hlt hr' fun h' h1 h2 t1 t2 t' n tk a b => k h' _ tk a b ⟨h1, h2, t1, t2, n, t', rfl⟩) ret
end

theorem Off.head2 {S tl : Led} {p q : Addr × Obj} (a : Off S [p, q]) (b : Off S tl) : Off S (p :: q :: tl) := Off.append a b
end
local macro_rules | `(tactic| walk_at "call ref") => `(tactic| (k_here; k_dflt (show wpAny _ _ (call (Value.ref 242) [Value.int _ _, Value.int _ _]) _ _ _); k_dflt (refine new_ref (by assumption) ⟨by assumption, _, _, _, by assumption⟩ (by assumption) (by simp only [depth_deeper]; omega) ?_); intro x' d' o' h' tk' f' F' N' D'; k_sweep))
local macro_rules | `(tactic| walk_at "call ref") => `(tactic| (k_here; k_dflt (show wpAny _ _ (call (Value.ref 171) [Value.str _ _]) _ _ _); k_dflt (refine new_name (by assumption) ⟨by assumption, _, _, _, by assumption⟩ (by assumption) (by simp only [depth_deeper]; omega) ?_); intro x' d' o' h' tk' f' F' N' D'; k_sweep))
local macro_rules | `(tactic| walk_at "call ref") => `(tactic| (k_here; k_dflt (show wpAny _ _ (call (Value.ref 193) [Value.bytes _ _, Value.bool _]) _ _ _); k_dflt (refine new_string (by assumption) ⟨by assumption, _, _, _, by assumption⟩ (by assumption) (by simp only [depth_deeper]; omega) ?_); intro x' d' o' h' tk' f' F' N' D'; k_sweep))
local macro_rules | `(tactic| walk_at "call ref") => `(tactic| (k_here; k_dflt (show wpAny _ _ (call (Value.ref 214) [Value.ref _, Value.bytes _ _]) _ _ _); k_dflt (refine new_stream (by assumption) ⟨by assumption, _, _, _, by assumption⟩ (by assumption) (by simp only [depth_deeper]; omega) ?_); intro x' d' o' h' tk' f' F' N' D'; k_sweep))
local macro_rules | `(tactic| ktn_open) => `(tactic| first | exact Off.nil | (refine Off.append ?_ ?_ <;> ktn_open) | exact Off.sub (by assumption) (by tb_rel) | (refine Off.head2 (Off.sub (by assumption) (by tb_rel)) ?_; ktn_open) | (refine Off.cons (fun q hq => (by assumption : ∀ p ∈ _, p.1 < _) q (by tb_start)) ?_; ktn_open) | (refine Off.cons (by first | exact lt_succ_all (by assumption) | exact lt_add2_all (by assumption) | exact allLt_0 (by assumption) | exact allLt_1 (by assumption) | exact allLt_2 (by assumption) | exact allLt_3 (by assumption) | exact allLt_4 (by assumption)) ?_; ktn_open) | (refine Off.head (Off.sub (by assumption) (by tb_rel)) ?_; ktn_open))
section
-- K8
inductive KvIn (P : World) (S : Led) : List Value → List (Str × Tr) → Prop
  | nil : KvIn P S [] []
  | cons {a : Addr} {k : Str} {t : Tok} {v : Value} {n : Nat} {x : Tr} {vs : List Value} {r : List (Str × Tr)} : (a, tupO [.str k t, v] n) ∈ S → TrIn P S v x → KvIn P S vs r → KvIn P S (.ref a :: vs) ((k, x) :: r)
theorem KvIn.mono {P : World} {S S' : Led} (h : ∀ p ∈ S, p ∈ S') {vs : List Value} {r : List (Str × Tr)} (k : KvIn P S vs r) : KvIn P S' vs r := by
  induction k with
  | nil => exact .nil
  | cons hm hx _ ih => exact .cons (h _ hm) (hx.mono h) ih
theorem KvIn.length {P : World} {S : Led} {vs : List Value} {r : List (Str × Tr)} (k : KvIn P S vs r) : vs.length = r.length := by
  induction k with
  | nil => rfl
  | cons _ _ _ ih => simp [ih]
theorem KvIn.snoc {P : World} {S : Led} {vs : List Value} {r : List (Str × Tr)} {a : Addr} {k : Str} {t : Tok} {v : Value} {n : Nat} {x : Tr} (h : KvIn P S vs r) (hm : (a, tupO [.str k t, v] n) ∈ S) (hx : TrIn P S v x) : KvIn P S (vs ++ [.ref a]) (r ++ [(k, x)]) := by
  induction h with
  | nil => exact .cons hm hx .nil
  | cons h h2 _ ih => exact .cons h h2 ih
theorem KvIn.at {P : World} {S : Led} {vs : List Value} {r : List (Str × Tr)} (h : KvIn P S vs r) : ∀ {i : Nat} {u : Value}, vs[i]? = some u → ∃ a k t v n x, u = .ref a ∧ (a, tupO [.str k t, v] n) ∈ S ∧ TrIn P S v x ∧ r[i]? = some (k, x) := by
  induction h with
  | nil => intro i u h; simp at h
  | cons hm hx _ ih =>
    intro i u h
    cases i with
    | zero => simp at h; exact ⟨_, _, _, _, _, _, h.symm, hm, hx, rfl⟩
    | succ i => simpa using ih (i := i) (by simpa using h)
theorem KvIn.kvs {P : World} {S : Led} {vs : List Value} {r : List (Str × Tr)} (h : KvIn P S vs r) : ∃ kvs : List (Str × Value), kvs.map (·.1) = r.map (·.1) ∧ TrAll P S (kvs.map (·.2)) (r.map (·.2)) ∧ vs.length = kvs.length ∧
    ∀ (i : Nat) (v : Value), vs[i]? = some v → ∃ a k x t n, v = .ref a ∧ (a, tupO [.str k t, x] n) ∈ S ∧ kvs[i]? = some (k, x) := by
  induction h with
  | nil => exact ⟨[], rfl, .nil, rfl, fun i v h => by simp at h⟩
  | @cons a k t v n x vs r hm hx _ ih =>
    obtain ⟨kvs, e1, e2, e3, e4⟩ := ih
    refine ⟨(k, v) :: kvs, by simp [e1], .cons hx e2, by simp [e3], fun i u h => ?_⟩
    cases i with
    | zero => simp at h; exact ⟨a, k, v, t, n, h.symm, hm, rfl⟩
    | succ i => simpa using e4 i u (by simpa using h)
theorem TrIn.dict_inv {P : World} {S : Led} {v : Value} {ks : List Str} {xs : List Tr} (h : TrIn P S v (.dict ks xs)) : ∃ a o kvs, v = .ref a ∧ (a, o) ∈ S ∧ (a == sysModules) = false ∧ o.IsDictOf (sK P) kvs ∧ TrAll P S (kvs.map (·.2)) xs ∧ xs.length ≤ 8 ∧ kvs.map (·.1) = ks := by
  cases h with
  | dict a z b c d => exact ⟨_, _, _, rfl, a, z, b, c, d, rfl⟩
theorem renL_at (T : Tab) {xs : List Tr} {i : Nat} {x : Tr} (h : xs[i]? = some x) : (renL T xs)[i]? = some (renT T x) := by rw [renL_eq, List.getElem?_map, h]; rfl
theorem renL_len (T : Tab) (xs : List Tr) : (renL T xs).length = xs.length := by rw [renL_eq, List.length_map]

def RenAt (w : World) (T : Tab) (n : Nat) : Prop := ∀ {x : Tr} {dp un : Nat} {fr : Option (List Env)} {gd : Option (List Code)} {s : Shared} {S : Led} {v : Value} {dT : Addr} {Q E : Value → Shared → Prop},
    ht x < n → Foot w (hideAll s.heap (S.map (·.1))) → Stands s.heap S → TrIn w S v x → TabIn PySem.Challenge.rw_og0158_01.row.prog w S dT T → dp + 4 * n + 30 < recursionLimit → un + 40 * n + 300 < cLine →
    (∀ r tl h' tk', Made s.heap h' tl → TrIn w (tl ++ S) r (renT T x) → Q r { s with heap := h', toks := tk' }) →
    wpAny (model PySem.Challenge.rw_og0158_01.row.prog w) (ar dp un fr gd) (call (.ref 282) [v, .ref dT]) Q E s

local macro_rules | `(tactic| walk_at "exec Assign cons ListComp") => `(tactic| (k_here; k_dflt (refine' Assign_ListComp_F ?kF ?k0 ?k1 ?k2 ?k3 ?k4 ?k5 ?k6 ?k7 ?k8 ?_; (case kF => assumption); (case k0 => with_unfolding_all rfl); (case k1 => with_unfolding_all rfl); (case k2 => decide); (case k3 => with_unfolding_all rfl); (case k4 => decide); (case k5 => with_unfolding_all rfl); (case k6 => intro _; with_unfolding_all rfl); (case k7 => with_unfolding_all rfl); (case k8 => with_unfolding_all rfl)); walk_say "MY ASSIGN"))

theorem ren_spec {w : World} {T : Tab} : ∀ n : Nat, RenAt w T n := by
  intro n0
  induction n0 with
  | zero => intro x dp un fr gd s S v dT Q E hn; exact absurd hn (Nat.not_lt_zero _)
  | succ n0 ih =>
  intro x dp un fr gd s S v dT Q E hn X hS hx hT hd hu ret
  have hcl := cLine_is
  refine wpAny_call ?_
  k_dflt (refine' enterC (binds := [(Str.ofString "value", v), (Str.ofString "table", .ref dT)]) S X hS ?k6 ?k7 ?k8 ?k9 ?kB ?kD ?_ ?c2 ?c3 ?c4; (case k6 => k_is); (case k7 => k_is); (case k8 => (dsimp only; omega)); (case k9 => exact BindsTo.of_eq rfl); (case kB => exact rfl); (case kD => decide +kernel); (case c2 => exact rfl); (case c3 => exact rfl); (case c4 => exact rfl); k_whole)
  intro g' L' h' tk' cells' G' F' N' Y' l1 X' T'
  obtain ⟨mean, mg, mb, T'⟩ := T'
  obtain ⟨o1, o2, hE, d1, d2⟩ := CellsAre.two Y'
  subst hE
  (try simp only [List.cons_append, List.nil_append] at N')
  have hsub : ∀ p ∈ S, p ∈ (((L' + 1, o1) : Addr × Obj) :: (L' + 1 + 1, o2) :: S : Led) := fun p h => List.Mem.tail _ (List.Mem.tail _ h)
  have hx0 := hx
  cases hx
  case ref a d h1 h2 t1 t2 n i j u1 u2 hm1 hm2 =>
    obtain ⟨loT, oT, xsT, hmT, hpT, hrT⟩ := id hT
    k_unmd
    k_fold
    k_steps
    rename Fr _ _ _ _ => F1
    rename News _ _ _ _ => N1
    rename_i D1 t1 u1 n1 tl1 h1 tk1 o1 m1
    refine notin_pair (by simp only [units_deeper]; omega) N1 loT (by tb_start) hpT (by tb_rel) (by tb_start) ?_
    intro tk2
    rcases hrT.get i j with ⟨e1, e2⟩ | ⟨i', j', ka, b, tb, ub, nb, e1, e2, hmb⟩
    · simp only [e2, Option.isSome_none, Bool.not_false]
      k_steps
      rename Fr _ _ _ _ => F2
      rename News _ _ _ _ => N2
      show Q _ _
      refine ret _ [] _ _ (made_nil G' hS F2 N2 (by tb_rel)) ?_
      simp only [renT, e1]
      exact .none
    · simp only [e2, Option.isSome_some, Bool.not_true]
      k_steps
      rename Fr _ _ _ _ => F2
      rename News _ _ _ _ => N2
      refine item_pair (by simp only [units_deeper]; omega) N2 (by tb_start) hpT (by tb_rel) (by tb_start) e2 ?_
      intro tk3
      (try dsimp only)
      k_steps
      rename Fr _ _ _ _ => F3
      rename News _ _ _ _ => N3
      rename ∃ _, _ => D3
      obtain ⟨h1', h2', t1', t2', n', t3', u3', rfl⟩ := D3
      show Q _ _
      refine ret _ _ _ _ (made_spl (by ktr_unf) G' hS F3 N3 ?_) ?_
      · ktn_open
      · simp only [renT, e1]
        exact .ref (.head _) (.tail _ (.head _))
  case arr a vs n xs hm hall h8 =>
    k_unmd
    k_fold
    k_steps
    rename Fr _ _ _ _ => F1
    rename News _ _ _ _ => N1
    have hlen := hall.length
    refine compP (fun i ys tl => TrAll w (tl ++ S) ys ((renL T xs).take i)) (src_list rfl (N1.isList (.tail _ (.tail _ hm)))) ?_ ⟨X', _, _, _, T'⟩ F1 N1 (hss_one (.tail _ (.tail _ hm))) .nil ?_ ?_
    · rw [hlen, sizeLine_eq]; omega
    · intro C i v ys tl s₃ m₃ g₃ E' hi hv hJ ho X₃ F₃ N₃ hm₃
      obtain ⟨K₃, mean₃, mg₃, mb₃, T₃⟩ := X₃
      refine wpAny_tests_nil ⟨⟨_, rfl⟩, fun _ => ?_, fun e => nomatch e⟩
      k_steps
      obtain ⟨x, hxi, hxt⟩ := hall.at hv
      have hh : ht x < n0 := by have := htL_at hxi; simp only [ht] at hn; omega
      refine ih (x := x) (S := S) hh (foot_of ⟨K₃, _, _, _, T₃⟩ F₃ N₃ (by tb_rel)) (stands_of N₃ (by tb_rel)) hxt hT ?ra ?rb ?_
      (case ra => ((try dsimp only); omega))
      (case rb => ((try dsimp only); omega))
      intro r tl' h' tk' M D
      k_steps
      refine ⟨_, _, tl', _, rfl, M.fr F₃, M.news F₃ N₃, ?_, ?_⟩
      · exact (off_fresh N₃ fun p hp => (M.2 p hp).2).sub (by tb_rel)
      · rw [List.take_add_one, renL_at T hxi]
        exact (TrAll.mono (by tb_rel) hJ).append (.cons (D.mono (by tb_rel)) .nil)
    · intro D h' tk ys tl e F N ho2 ho3 hD hJ hy
      rw [List.take_of_length_le (by rw [renL_len, hlen]; exact Nat.le_refl _)] at hJ
      show Q _ _
      refine ret _ _ _ _ (made_spl (by ktr_unf) G' hS F N ?_) ?_
      · ktn_open
      · simp only [renT]
        exact .arr (.head _) (TrAll.mono (by tb_rel) hJ) (by rw [renL_len]; exact h8)
  case dict a o kvs xs hm lo hd hall h8 =>
    k_unmd
    k_fold
    k_steps
    rename Fr _ _ _ _ => F1
    rename News _ _ _ _ => N1
    have hnd : (kvs.map (·.1)).Nodup := hd.choose_spec.choose_spec.2.2.2.2
    have hlk : kvs.length = xs.length := by simpa using hall.length
    refine compP (fun i ys tl => KvIn w (tl ++ S) ys (((kvs.map (·.1)).zip (renL T xs)).take i)) (src_dict rfl lo N1 (.tail _ (.tail _ hm)) hd) ?_ ⟨X', _, _, _, T'⟩ F1 N1 (hss_one (.tail _ (.tail _ hm))) .nil ?_ ?_
    · rw [hlk, sizeLine_eq]; omega
    · intro C i v ys tl s₃ m₃ g₃ E' hi hv hJ ho X₃ F₃ N₃ hm₃
      obtain ⟨K₃, mean₃, mg₃, mb₃, T₃⟩ := X₃
      obtain ⟨k, x0, t, hk, rfl⟩ := hv
      refine wpAny_tests_nil ⟨⟨_, rfl⟩, fun _ => ?_, fun e => nomatch e⟩
      k_steps
      have hval : valueAt kvs k = some x0 := valueAt_mem hnd (List.mem_of_getElem? hk)
      obtain ⟨x, hxi, hxt⟩ := hall.at (i := i) (v := x0) (by rw [List.getElem?_map, hk]; rfl)
      refine dict_item N₃ (by tb_start) hd hval ?_ (by with_unfolding_all rfl)
      k_steps
      have hh : ht x < n0 := by have := htL_at hxi; simp only [ht] at hn; omega
      refine ih (x := x) (S := S) hh (foot_of ⟨K₃, _, _, _, T₃⟩ F₃ N₃ (by tb_rel)) (stands_of N₃ (by tb_rel)) hxt hT ?ra ?rb ?_
      (case ra => ((try dsimp only); omega))
      (case rb => ((try dsimp only); omega))
      intro y tl' h' tk' M D
      have F4 := M.fr F₃
      have N4 := M.news F₃ N₃
      have o4 : Off _ tl' := off_fresh N₃ fun p hp => (M.2 p hp).2
      (try dsimp only)
      k_steps
      rename Fr _ _ _ _ => F5
      rename News _ _ _ _ => N5
      refine ⟨_, _, (_, _) :: tl', _, rfl, F5, N5, ?_, ?_⟩
      · exact Off.top (by first | assumption | exact allLt_0 (by assumption)) (by tb_rel) (o4.sub (by tb_rel))
      · have hz : ((kvs.map (·.1)).zip (renL T xs))[i]? = some (k, renT T x) := by
          rw [List.getElem?_zip_eq_some]
          exact ⟨by rw [List.getElem?_map, hk]; rfl, renL_at T hxi⟩
        rw [List.take_add_one, hz]
        exact (hJ.mono (by tb_rel)).snoc (n := 0) (.head _) (D.mono (by tb_rel))
    · intro D h' tk ys tl e F N ho2 ho3 hD hJ hy
      have hlz : ((kvs.map (·.1)).zip (renL T xs)).length = kvs.length := by rw [List.length_zip, List.length_map, renL_len, hlk]; exact Nat.min_self _
      rw [List.take_of_length_le (by rw [hlz]; exact Nat.le_refl _)] at hJ
      have hjl := hJ.length
      have hsub2 : ∀ p ∈ tl ++ S, p ∈ tl ++ (L' + 1 + 1, o1) :: (L' + 1, o2) :: S := by tb_rel
      (try dsimp only)
      (try k_unmd)
      k_fold
      k_steps
      refine compP (fun i zs tl2 => tl2 = [] ∧ KvIn w (tl ++ S) zs ((((kvs.map (·.1)).zip (renL T xs)).take i).filter fun p => !isNil p.2)) (src_list rfl (N.isList (.head _))) ?_ ⟨X', _, _, _, T'⟩ F N (hss_one (.head _)) ⟨rfl, .nil⟩ ?_ ?_
      · rw [hjl, hlz, hlk, sizeLine_eq]; omega
      · rintro C i v zs tl2 s₃ m₃ g₃ E' hi hv ⟨rfl, hJ2⟩ ho X₃ F₃ N₃ hm₃
        obtain ⟨K₃, mean₃, mg₃, mb₃, T₃⟩ := X₃
        obtain ⟨ap, k, t, v2, np, x2, rfl, hmp, hx2, hz2⟩ := hJ.at hv
        refine wpAny_tests_one ?_
        k_steps
        refine item_tupleT (l := [.str k t, v2]) (j := 1) ⟨_, N₃.get (.tail _ (hsub2 _ hmp)), rfl, np, rfl⟩ (by decide) (by decide) rfl rfl ?_ (by with_unfolding_all rfl)
        k_steps
        refine isNot_none ?_
        rw [noneV_eq hx2]
        refine wpAny_truthy_bool ?_
        refine ⟨⟨_, rfl⟩, fun e => ?_, fun e => ?_⟩
        · k_steps
          refine ⟨_, _, [], _, rfl, F₃, N₃, Off.nil, rfl, ?_⟩
          rw [List.take_add_one, hz2, List.filter_append]
          simp only [Option.toList_some, List.filter_cons, e, if_true, List.filter_nil]
          exact hJ2.snoc hmp hx2
        · refine ⟨rfl, ?_⟩
          rw [List.take_add_one, hz2, List.filter_append]
          simp only [Option.toList_some, List.filter_cons, e, Bool.false_eq_true, if_false, List.filter_nil, List.append_nil]
          exact hJ2
      · rintro D2 h2 tk2 zs tl2 e2 F5 N5 ho5 ho6 hD5 ⟨rfl, hJ2⟩ hy2
        rw [List.take_of_length_le (by omega)] at hJ2
        k_steps
        have hfl := List.length_filter_le (fun p : Str × Tr => !isNil p.2) ((kvs.map (·.1)).zip (renL T xs))
        obtain ⟨kvs', e1, e2', e3, e4⟩ := hJ2.kvs
        have hk8 : kvs'.length ≤ 8 := by
          have h9 := congrArg List.length e1
          simp only [List.length_map] at h9
          omega
        refine dict_strs (kvs := kvs') rfl F5 N5 (.head _) e3 ?_ (by omega) (modules_low T'.nolimit) ?_ ?_
        · rw [e1]
          refine List.Nodup.sublist (List.Sublist.map _ List.filter_sublist) ?_
          rw [List.map_fst_zip (by rw [List.length_map, renL_len, hlk]; exact Nat.le_refl _)]
          exact hnd
        · intro i v hv
          obtain ⟨ap, k, x, t, n, rfl, hmem, hkv⟩ := e4 i v hv
          exact ⟨ap, k, x, t, n, rfl, .tail _ (.tail _ (hsub2 _ hmem)), hkv⟩
        · intro d3 h3 o3 tk3 lo3 F6 N6 l6 hd3
          show Q _ _
          refine ret _ _ _ _ (made_spl (by ktr_unf) G' hS F6 N6 ?_) ?_
          · ktn_open
          · simp only [renT]
            rw [← e1]
            exact .dict (.head _) lo3 hd3 (TrAll.mono (by tb_rel) e2') (by rw [List.length_map]; omega)
  case stream a d c h1 h2 t1 t2 n b u1 o kvs xs hm1 hm2 hm3 lo hd hall h8 =>
    k_unmd
    k_fold
    k_steps
    rename Fr _ _ _ _ => F1
    rename News _ _ _ _ => N1
    refine ih (x := .dict (kvs.map (·.1)) xs) (S := S) ?hh (foot_of ⟨X', _, _, _, T'⟩ F1 N1 (by tb_rel)) (stands_of N1 (by tb_rel)) (.dict hm3 lo hd hall h8) hT ?ra ?rb ?_
    (case hh => (simp only [ht] at hn ⊢; omega))
    (case ra => ((try dsimp only); omega))
    (case rb => ((try dsimp only); omega))
    intro r tl h' tk' M D
    have F2 := M.fr F1
    have N2 := M.news F1 N1
    have o2 : Off _ tl := off_fresh N1 fun p hp => (M.2 p hp).2
    simp only [renT] at D
    obtain ⟨c2, oc, kvs2, rfl, hmc, loc, hdc, hallc, h8c, ekc⟩ := D.dict_inv
    (try dsimp only)
    k_steps
    rename Fr _ _ _ _ => F3
    rename News _ _ _ _ => N3
    rename ∃ _, _ => D3
    obtain ⟨h1', h2', t1', t2', n', t3', rfl⟩ := D3
    show Q _ _
    refine ret _ _ _ _ (made_spl (by ktr_unf) G' hS F3 N3 ?_) ?_
    · ktn_open
    · simp only [renT]
      rw [← ekc]
      exact .stream (.head _) (.tail _ (.head _)) ((by tb_rel : ∀ p ∈ tl ++ S, p ∈ _) _ hmc) loc hdc (TrAll.mono (by tb_rel) hallc) h8c
  all_goals (
    k_unmd
    k_fold
    k_steps
    rename Fr _ _ _ _ => F2
    rename News _ _ _ _ => N2
    show Q _ _
    refine ret _ [] _ _ (made_nil G' hS F2 N2 (by tb_rel)) ?_
    simpa [renT] using hx0)

section
variable {w : World} {dp un : Nat} {fr : Option (List Env)} {gd : Option (List Code)} {s : Shared} {g : Heap} {L dT : Addr} {m : Str → Option Value} {S news : Led} {v : Value} {x : Tr} {T : Tab} {Q E : Value → Shared → Prop}
theorem ren_K {n : Nat} {mean : ExcName → Option Value} {mg mb : Str → Option Value} (F : Fr g L s.heap m) (N : News g L s.heap news) (X : (hd.heap_1 w.params).In g) (T' : Top hdV (looseW hdV [Str.ofString "PaperError"]) mean mg mb g) (hx : TrIn w S v x) (hT : TabIn PySem.Challenge.rw_og0158_01.row.prog w S dT T) (sub : ∀ p ∈ S, p ∈ news) (hn : ht x < n) (hd1 : dp + 4 * n + 30 < recursionLimit) (hu : un + 40 * n + 300 < cLine)
    (ret : ∀ r tl h' tk', Off news tl → Fr g L h' m → News g L h' (tl ++ news) → TrIn w (tl ++ S) r (renT T x) → Q r { s with heap := h', toks := tk' }) :
    wpAny (model PySem.Challenge.rw_og0158_01.row.prog w) (ar dp un fr gd) (call (.ref 282) [v, .ref dT]) Q E s :=
  ren_spec n hn (foot_of ⟨X, _, _, _, T'⟩ F N sub) (stands_of N sub) hx hT hd1 hu fun r tl h' tk' M D => ret r tl h' tk' (off_fresh N fun p hp => (M.2 p hp).2) (M.fr F) (M.news F N) D
theorem told_K {n : Nat} {mean : ExcName → Option Value} {mg mb : Str → Option Value} (F : Fr g L s.heap m) (N : News g L s.heap news) (X : (hd.heap_1 w.params).In g) (T' : Top hdV (looseW hdV [Str.ofString "PaperError"]) mean mg mb g) (hx : TrIn w S v x) (sub : ∀ p ∈ S, p ∈ news) (hn : ht x < n) (hd1 : dp + 4 * n + 20 < recursionLimit) (hu : un + 40 * n + 200 < cLine)
    (ret : ∀ r tl h' tk', Off news tl → Fr g L h' m → News g L h' (tl ++ news) → DatIn (tl ++ S) r (toldD x) → Q r { s with heap := h', toks := tk' }) :
    wpAny (model PySem.Challenge.rw_og0158_01.row.prog w) (ar dp un fr gd) (call (.ref 265) [v]) Q E s :=
  told_spec n hn (foot_of ⟨X, _, _, _, T'⟩ F N sub) (stands_of N sub) hx hd1 hu fun r tl h' tk' M D => ret r tl h' tk' (off_fresh N fun p hp => (M.2 p hp).2) (M.fr F) (M.news F N) D
theorem refs_K {mean : ExcName → Option Value} {mg mb : Str → Option Value} (F : Fr g L s.heap m) (N : News g L s.heap news) (X : (hd.heap_1 w.params).In g) (T' : Top hdV (looseW hdV [Str.ofString "PaperError"]) mean mg mb g) (hx : TrIn w S v x) (sub : ∀ p ∈ S, p ∈ news) (hsz : szT x ≤ 100000) (hd1 : dp + 30 < recursionLimit) (hu : un + 400 < cLine)
    (ret : ∀ D vs n tl h' tk', Off news tl → Fr g L h' m → News g L h' (tl ++ news) → (D, listOf (List.toArray vs) n) ∈ tl → PairsIn (tl ++ S) vs (ddp [] (refsT x)) → Q (.ref D) { s with heap := h', toks := tk' }) :
    wpAny (model PySem.Challenge.rw_og0158_01.row.prog w) (ar dp un fr gd) (call (.ref 277) [v]) Q E s :=
  refs_spec (foot_of ⟨X, _, _, _, T'⟩ F N sub) (stands_of N sub) hx hsz hd1 hu fun D vs n tl h' tk' M hm P => ret D vs n tl h' tk' (off_fresh N fun p hp => (M.2 p hp).2) (M.fr F) (M.news F N) hm P
theorem depth_K {mean : ExcName → Option Value} {mg mb : Str → Option Value} (F : Fr g L s.heap m) (N : News g L s.heap news) (X : (hd.heap_1 w.params).In g) (T' : Top hdV (looseW hdV [Str.ofString "PaperError"]) mean mg mb g) (hx : TrIn w S v x) (sub : ∀ p ∈ S, p ∈ news) (hsz : szT x ≤ 100000) (hd1 : dp + 30 < recursionLimit) (hu : un + 400 < cLine)
    (ret : ∀ t h' tk', Fr g L h' m → News g L h' news → Q (.int (dpT x : Int) t) { s with heap := h', toks := tk' }) :
    wpAny (model PySem.Challenge.rw_og0158_01.row.prog w) (ar dp un fr gd) (call (.ref 289) [v]) Q E s :=
  depth_spec (foot_of ⟨X, _, _, _, T'⟩ F N sub) (stands_of N sub) hx hsz hd1 hu fun t h' tk' M => ret t h' tk' (M.fr F) (by simpa using M.news F N)
end
end
section
-- KN
/-! the plain laws -/
/-- induction over a tree and its parts -/
theorem tr_ind {M : Tr → Prop} (h : ∀ x, (∀ y ∈ (match x with | .arr xs => xs | .dict _ xs => xs | .stream _ xs _ => xs | _ => []), M y) → M x) : ∀ x, M x := by
  intro x
  have : ∀ n x, szT x ≤ n → M x := by
    intro n
    induction n with
    | zero => intro x hx; have := szT_pos x; omega
    | succ n ih =>
      intro x hx
      refine h x fun y hy => ih y ?_
      have hmem : ∀ xs : List Tr, y ∈ xs → szT y ≤ szL xs := by
        intro xs
        induction xs with
        | nil => intro h; exact nomatch h
        | cons z r ih2 =>
          intro h
          simp only [szL]
          rcases List.mem_cons.mp h with rfl | h
          · omega
          · have := ih2 h; omega
      cases x with
      | arr xs => have := hmem xs hy; simp only [szT] at hx; omega
      | dict ks xs => have := hmem xs hy; simp only [szT] at hx; omega
      | stream ks xs b => have := hmem xs hy; simp only [szT] at hx; omega
      | _ => exact nomatch hy
  exact this _ x (Nat.le_refl _)

theorem insK_filter {α : Type} (f : Str × α → Bool) (k : Str) (a : α) : ∀ l : List (Str × α), (l.map (·.1)).Pairwise kLe → (insK k a l).filter f = if f (k, a) = true then insK k a (l.filter f) else l.filter f
  | [], _ => by simp only [insK, List.filter_cons, List.filter_nil]
  | (k', a') :: r, h => by
    have h1 := List.pairwise_cons.mp h
    have ih := insK_filter f k a r h1.2
    by_cases hlt : Spec.ltCps k'.cps.toList k.cps.toList = true
    · have e1 : insK k a ((k', a') :: r) = (k', a') :: insK k a r := by simp [insK, hlt]
      have e2 : insK k a ((k', a') :: r.filter f) = (k', a') :: insK k a (r.filter f) := by simp [insK, hlt]
      rw [e1, List.filter_cons, ih, List.filter_cons]
      by_cases hf : f (k', a') = true <;> by_cases hg : f (k, a) = true <;> simp [hf, hg, e2]
    · have e1 : insK k a ((k', a') :: r) = (k, a) :: (k', a') :: r := by simp [insK, hlt]
      -- every key behind is not below k
      have all : ∀ q ∈ (k', a') :: r, Spec.ltCps q.1.cps.toList k.cps.toList = false := by
        intro q hq
        have hk : kLe k k' := by simpa [kLe] using hlt
        rcases List.mem_cons.mp hq with rfl | hq
        · simpa using hlt
        · exact kLe_trans hk (h1.1 _ (List.mem_map_of_mem hq))
      have front : ∀ l : List (Str × α), (∀ q ∈ l, Spec.ltCps q.1.cps.toList k.cps.toList = false) → insK k a l = (k, a) :: l := by
        intro l hl
        cases l with
        | nil => rfl
        | cons q t => obtain ⟨k2, a2⟩ := q; have := hl _ (List.mem_cons_self ..); simp [insK, this]
      rw [e1, List.filter_cons, front _ fun q hq => all q (List.mem_filter.mp hq).1]
theorem sortK_filter {α : Type} (f : Str × α → Bool) : ∀ l : List (Str × α), sortK (l.filter f) = (sortK l).filter f
  | [] => rfl
  | (k, a) :: r => by
    rw [sortK, insK_filter f k a _ (sortK_sorted r), ← sortK_filter f r, List.filter_cons]
    by_cases h : f (k, a) = true <;> simp [h, sortK]

theorem zip_fst_snd {α β : Type} (l : List (α × β)) : (l.map (·.1)).zip (l.map (·.2)) = l := by
  induction l with
  | nil => rfl
  | cons a r ih => simp [ih]
/-- the entries of a dict turned -/
def renP (T : Tab) (ks : List Str) (xs : List Tr) : List (Str × Tr) := (ks.zip (renL T xs)).filter fun p => !isNil p.2
theorem renP_map (T : Tab) (ks : List Str) (xs : List Tr) : renP T ks xs = ((ks.zip xs).map fun p => (p.1, renT T p.2)).filter fun p => !isNil p.2 := by
  unfold renP
  rw [renL_eq, List.zip_map_right]; rfl
theorem isNil_ren (T : Tab) : ∀ {x : Tr}, isNil x = true → renT T x = .none
  | .none, _ => by simp [renT]
  | .bool _, h | .int _, h | .dec _ _, h | .name _, h | .string _ _, h | .ref _ _, h | .arr _, h | .dict _ _, h | .stream _ _ _, h => nomatch h

/-- the table that goes through both -/
def thru (T1 T2 : Tab) : Tab := T1.filterMap fun p => (tget T2 p.2).map fun q => (p.1, q)
theorem tget_none {T : Tab} {p : Int × Int} : p ∉ T.map (·.1) → tget T p = none := by
  induction T with
  | nil => intro _; rfl
  | cons a r ih =>
    obtain ⟨k, v⟩ := a
    intro h
    simp only [List.map_cons, List.mem_cons, not_or] at h
    simp only [tget, if_neg (Ne.symm h.1)]
    exact ih h.2
theorem tget_thru {T1 T2 : Tab} (hn : (T1.map (·.1)).Nodup) (p : Int × Int) : tget (thru T1 T2) p = (tget T1 p).bind (tget T2) := by
  induction T1 with
  | nil => rfl
  | cons a r ih =>
    obtain ⟨k, v⟩ := a
    simp only [List.map_cons, List.nodup_cons] at hn
    have ih := ih hn.2
    unfold thru at ih ⊢
    by_cases e : k = p
    · subst e
      have h2 : k ∉ ((r.filterMap fun p => (tget T2 p.2).map fun q => (p.1, q)).map (·.1)) := by
        intro hm
        obtain ⟨q, hq, e⟩ := List.mem_map.mp hm
        obtain ⟨q0, hq0, e0⟩ := List.mem_filterMap.mp hq
        obtain ⟨q1, _, e1⟩ := Option.map_eq_some_iff.mp e0
        subst e1
        have h9 := List.mem_map_of_mem (f := (·.1)) hq0
        exact hn.1 (by rw [← e]; exact h9)
      cases h : tget T2 v with
      | none => simp only [List.filterMap_cons, h, Option.map_none, tget, if_true, Option.bind_some]; exact tget_none h2
      | some q => simp only [List.filterMap_cons, h, Option.map_some, tget, if_true, Option.bind_some]
    · cases h : tget T2 v with
      | none => simp only [List.filterMap_cons, h, Option.map_none, tget, if_neg e]; exact ih
      | some q => simp only [List.filterMap_cons, h, Option.map_some, tget, if_neg e]; exact ih

theorem filter_twice (T1 T2 T3 : Tab) : ∀ ps : List (Str × Tr), (∀ p ∈ ps, renT T2 (renT T1 p.2) = renT T3 p.2) →
    (((((ps.map fun p => (p.1, renT T1 p.2)).filter fun p => !isNil p.2)).map fun p => (p.1, renT T2 p.2)).filter fun p => !isNil p.2) = (ps.map fun p => (p.1, renT T3 p.2)).filter fun p => !isNil p.2
  | [], _ => rfl
  | p :: r, h => by
    have ih := filter_twice T1 T2 T3 r fun q hq => h q (.tail _ hq)
    have h0 := h p (.head _)
    simp only [List.map_cons, List.filter_cons]
    by_cases hn : isNil (renT T1 p.2) = true
    · have h3 : renT T3 p.2 = .none := by rw [← h0]; exact isNil_ren T2 hn
      have h4 : isNil Tr.none = true := rfl
      simp only [hn, Bool.not_true, Bool.false_eq_true, if_false, h3, h4, ih]
    · simp only [hn, Bool.not_false, if_true, List.map_cons, List.filter_cons, h0, ih]

/-- one table, then the other: the table through both -/
theorem ren_ren {T1 T2 : Tab} (hn : (T1.map (·.1)).Nodup) : ∀ x, renT T2 (renT T1 x) = renT (thru T1 T2) x := by
  refine tr_ind fun x h => ?_
  cases x with
  | ref n g =>
    simp only [renT, tget_thru hn]
    cases tget T1 (n, g) with
    | none => simp [renT]
    | some p => simp [renT]
  | arr xs =>
    simp only [renT, renL_eq, List.map_map]
    congr 1
    exact List.map_congr_left fun y hy => h y hy
  | dict ks xs =>
    have e : renT T2 (renT T1 (.dict ks xs)) = .dict ((renP T2 ((renP T1 ks xs).map (·.1)) ((renP T1 ks xs).map (·.2))).map (·.1)) ((renP T2 ((renP T1 ks xs).map (·.1)) ((renP T1 ks xs).map (·.2))).map (·.2)) := by
      simp only [renT, renP]
    have e2 : renP T2 ((renP T1 ks xs).map (·.1)) ((renP T1 ks xs).map (·.2)) = renP (thru T1 T2) ks xs := by
      rw [renP_map T2, zip_fst_snd, renP_map T1, renP_map]
      exact filter_twice _ _ _ _ fun p hp => h p.2 (List.of_mem_zip hp).2
    rw [e, e2]
    simp only [renT, renP]
  | stream ks xs b =>
    have e : renT T2 (renT T1 (.stream ks xs b)) = .stream ((renP T2 ((renP T1 ks xs).map (·.1)) ((renP T1 ks xs).map (·.2))).map (·.1)) ((renP T2 ((renP T1 ks xs).map (·.1)) ((renP T1 ks xs).map (·.2))).map (·.2)) b := by
      simp only [renT, renP]
    have e2 : renP T2 ((renP T1 ks xs).map (·.1)) ((renP T1 ks xs).map (·.2)) = renP (thru T1 T2) ks xs := by
      rw [renP_map T2, zip_fst_snd, renP_map T1, renP_map]
      exact filter_twice _ _ _ _ fun p hp => h p.2 (List.of_mem_zip hp).2
    rw [e, e2]
    simp only [renT, renP]
  | _ => simp [renT]

/-- the tree's own shape: the parts of a dict in order -/
theorem sort_renP (T : Tab) (ks : List Str) (xs : List Tr) : sortK (renP T ks xs) = ((sortK (ks.zip xs)).map fun p => (p.1, renT T p.2)).filter fun p => !isNil p.2 := by
  rw [renP_map, sortK_filter, sortK_map (renT T)]

/-! told, where every reference stays -/
theorem isNil_stay {T : Tab} {x : Tr} (h : ∀ p ∈ refsT x, tget T p = some p) : isNil (renT T x) = isNil x := by
  cases x with
  | ref n g => simp only [renT, h (n, g) (by simp [refsT]), isNil]
  | _ => simp [renT, isNil]
theorem ent_stay {T : Tab} : ∀ R : List (Str × Tr), (∀ r ∈ R, toldD (renT T r.2) = toldD r.2 ∧ isNil (renT T r.2) = isNil r.2) →
    entD (((R.map fun p => (p.1, renT T p.2)).filter fun p => !isNil p.2).map fun p => (p.1, optD p.2)) = entD (R.map fun p => (p.1, optD p.2))
  | [], _ => rfl
  | r :: R, h => by
    have ih := ent_stay R fun q hq => h q (.tail _ hq)
    obtain ⟨h1, h2⟩ := h r (.head _)
    simp only [List.map_cons, List.filter_cons, h2]
    by_cases hn : isNil r.2 = true
    · have : optD r.2 = none := by unfold optD; rw [if_pos hn]
      simp only [hn, Bool.not_true, Bool.false_eq_true, if_false, this, entD]; exact ih
    · have e1 : optD r.2 = some (toldD r.2) := by unfold optD; rw [if_neg hn]
      have e2 : optD (renT T r.2) = some (toldD r.2) := by unfold optD; rw [if_neg (by rw [h2]; exact hn), h1]
      simp only [hn, Bool.not_false, if_true, List.map_cons, e1, e2, entD, ih]
theorem refsM_mem {xs : List Tr} {x : Tr} (h : x ∈ xs) {p : Int × Int} (hp : p ∈ refsT x) : p ∈ (refsM xs).flatten := by
  rw [refsM_eq]
  exact List.mem_flatten.mpr ⟨_, List.mem_map_of_mem h, hp⟩
theorem refs_sorted_mem {ks : List Str} {xs : List Tr} {r : Str × Tr} (h : r ∈ sortK (ks.zip xs)) {p : Int × Int} (hp : p ∈ refsT r.2) : p ∈ ((sortK (ks.zip (refsM xs))).map (·.2)).flatten := by
  rw [refsM_eq, sort_zip]
  exact List.mem_flatten.mpr ⟨_, List.mem_map_of_mem (List.mem_map_of_mem h), hp⟩
theorem told_entries (ks : List Str) (xs : List Tr) : entD (sortK (ks.zip (toldN xs))) = entD ((sortK (ks.zip xs)).map fun p => (p.1, optD p.2)) := by
  rw [toldN_eq, ← sortK_map optD, List.zip_map_right]
  rfl
theorem told_entries_ren (T : Tab) (ks : List Str) (xs : List Tr) : entD (sortK (((renP T ks xs).map (·.1)).zip (toldN ((renP T ks xs).map (·.2))))) = entD ((((sortK (ks.zip xs)).map fun p => (p.1, renT T p.2)).filter fun p => !isNil p.2).map fun p => (p.1, optD p.2)) := by
  rw [told_entries, zip_fst_snd, sort_renP]
theorem told_stay {T : Tab} : ∀ x, (∀ p ∈ refsT x, tget T p = some p) → toldD (renT T x) = toldD x := by
  refine tr_ind fun x h hp => ?_
  cases x with
  | ref n g => simp only [renT, hp (n, g) (by simp [refsT])]
  | arr xs =>
    simp only [renT, toldD]
    congr 2
    have : ∀ xs : List Tr, (∀ y ∈ xs, toldD (renT T y) = toldD y) → toldL (renL T xs) = toldL xs := by
      intro xs
      induction xs with
      | nil => intro _; rfl
      | cons y r ih => intro hh; simp only [renL, toldL, hh y (.head _), ih fun z hz => hh z (.tail _ hz)]
    exact this xs fun y hy => h y hy fun p hq => hp p (by simp only [refsT]; exact refsM_mem hy hq)
  | dict ks xs =>
    have e : toldD (renT T (.dict ks xs)) = .tuple (.str (Str.ofString "dict") :: entD (sortK (((renP T ks xs).map (·.1)).zip (toldN ((renP T ks xs).map (·.2)))))) := by simp only [renT, toldD, renP]
    rw [e, told_entries_ren, toldD, told_entries, ent_stay]
    intro r hr
    have hq : ∀ p ∈ refsT r.2, tget T p = some p := fun p hq => hp p (by simp only [refsT]; exact refs_sorted_mem hr hq)
    exact ⟨h r.2 (List.of_mem_zip ((sortK_perm _).mem_iff.mp hr)).2 hq, isNil_stay hq⟩
  | stream ks xs b =>
    have e : toldD (renT T (.stream ks xs b)) = .tuple [.str (Str.ofString "stream"), .tuple (.str (Str.ofString "dict") :: entD (sortK (((renP T ks xs).map (·.1)).zip (toldN ((renP T ks xs).map (·.2)))))), .bytes b] := by simp only [renT, toldD, renP]
    rw [e, told_entries_ren, toldD, told_entries, ent_stay]
    intro r hr
    have hq : ∀ p ∈ refsT r.2, tget T p = some p := fun p hq => hp p (by simp only [refsT]; exact refs_sorted_mem hr hq)
    exact ⟨h r.2 (List.of_mem_zip ((sortK_perm _).mem_iff.mp hr)).2 hq, isNil_stay hq⟩
  | _ => simp [renT]

/-! the references of the turned one -/
theorem refs_rows {T : Tab} : ∀ R : List (Str × Tr), (∀ r ∈ R, refsT (renT T r.2) = (refsT r.2).filterMap (tget T)) →
    ((((R.map fun p => (p.1, renT T p.2)).filter fun p => !isNil p.2).map (·.2)).map refsT).flatten = (((R.map (·.2)).map refsT).flatten).filterMap (tget T)
  | [], _ => rfl
  | r :: R, h => by
    have ih := refs_rows R fun q hq => h q (.tail _ hq)
    have h0 := h r (.head _)
    simp only [List.map_cons, List.filter_cons, List.flatten_cons, List.filterMap_append]
    by_cases hn : isNil (renT T r.2) = true
    · have h1 : renT T r.2 = .none := by
        cases hq : renT T r.2 <;> rw [hq] at hn <;> first | rfl | exact nomatch hn
      rw [h1] at h0
      have h2 : (refsT r.2).filterMap (tget T) = [] := by rw [← h0]; rfl
      simp only [hn, Bool.not_true, Bool.false_eq_true, if_false, h2, List.nil_append]; exact ih
    · simp only [hn, Bool.not_false, if_true, List.map_cons, List.flatten_cons, h0]; rw [ih]
theorem refs_ren (T : Tab) : ∀ x, refsT (renT T x) = (refsT x).filterMap (tget T) := by
  refine tr_ind fun x h => ?_
  cases x with
  | ref n g =>
    simp only [renT, refsT, List.filterMap_cons, List.filterMap_nil]
    cases tget T (n, g) <;> simp [refsT]
  | arr xs =>
    simp only [renT, refsT, refsM_eq, renL_eq]
    have : ∀ xs : List Tr, (∀ y ∈ xs, refsT (renT T y) = (refsT y).filterMap (tget T)) → ((xs.map (renT T)).map refsT).flatten = ((xs.map refsT).flatten).filterMap (tget T) := by
      intro xs
      induction xs with
      | nil => intro _; rfl
      | cons y r ih => intro hh; simp only [List.map_cons, List.flatten_cons, List.filterMap_append, hh y (.head _), ih fun z hz => hh z (.tail _ hz)]
    exact this xs fun y hy => h y hy
  | dict ks xs =>
    have e : refsT (renT T (.dict ks xs)) = ((sortK (((renP T ks xs).map (·.1)).zip (refsM ((renP T ks xs).map (·.2))))).map (·.2)).flatten := by simp only [renT, refsT, renP]
    rw [e, refsM_eq, sort_zip, zip_fst_snd, sort_renP, refsT, refsM_eq, sort_zip]
    exact refs_rows _ fun r hr => h r.2 (List.of_mem_zip ((sortK_perm _).mem_iff.mp hr)).2
  | stream ks xs b =>
    have e : refsT (renT T (.stream ks xs b)) = ((sortK (((renP T ks xs).map (·.1)).zip (refsM ((renP T ks xs).map (·.2))))).map (·.2)).flatten := by simp only [renT, refsT, renP]
    rw [e, refsM_eq, sort_zip, zip_fst_snd, sort_renP, refsT, refsM_eq, sort_zip]
    exact refs_rows _ fun r hr => h r.2 (List.of_mem_zip ((sortK_perm _).mem_iff.mp hr)).2
  | _ => simp [renT, refsT]

def dnew (acc : List (Int × Int)) : List (Int × Int) → List (Int × Int)
  | [] => []
  | p :: r => if p ∈ acc then dnew acc r else p :: dnew (acc ++ [p]) r
theorem ddp_dnew : ∀ (l acc : List (Int × Int)), ddp acc l = acc ++ dnew acc l
  | [], acc => by simp [ddp, dnew]
  | p :: r, acc => by
    simp only [ddp, dnew]
    split
    · exact ddp_dnew r acc
    · rw [ddp_dnew r (acc ++ [p]), List.append_assoc]; rfl
theorem ddp_filter (f : Int × Int → Option (Int × Int)) : ∀ (l acc acc' : List (Int × Int)), (∀ p ∈ acc, ∀ q, f p = some q → q ∈ acc') → ddp acc' ((dnew acc l).filterMap f) = ddp acc' (l.filterMap f)
  | [], _, _, _ => rfl
  | p :: r, acc, acc', h => by
    simp only [dnew]
    by_cases hp : p ∈ acc
    · rw [if_pos hp, ddp_filter f r acc acc' h, List.filterMap_cons]
      cases hf : f p with
      | none => rfl
      | some q => simp only [ddp, if_pos (h p hp q hf)]
    · rw [if_neg hp, List.filterMap_cons, List.filterMap_cons]
      cases hf : f p with
      | none =>
        refine ddp_filter f r (acc ++ [p]) acc' fun a ha q hq => ?_
        rcases List.mem_append.mp ha with ha | ha
        · exact h a ha q hq
        · rw [List.mem_singleton.mp ha, hf] at hq; cases hq
      | some q =>
        simp only [ddp]
        split
        · rename_i hq'
          refine ddp_filter f r (acc ++ [p]) acc' fun a ha q' hq => ?_
          rcases List.mem_append.mp ha with ha | ha
          · exact h a ha q' hq
          · rw [List.mem_singleton.mp ha, hf] at hq; cases hq; exact hq'
        · refine ddp_filter f r (acc ++ [p]) (acc' ++ [q]) fun a ha q' hq => ?_
          rcases List.mem_append.mp ha with ha | ha
          · exact List.mem_append_left _ (h a ha q' hq)
          · rw [List.mem_singleton.mp ha, hf] at hq; cases hq; exact List.mem_append_right _ (List.mem_singleton.mpr rfl)
theorem ddp_due (T : Tab) (x : Tr) : ddp [] ((ddp [] (refsT x)).filterMap (tget T)) = ddp [] (refsT (renT T x)) := by
  rw [refs_ren, ddp_dnew (refsT x) [], List.nil_append]
  exact ddp_filter _ _ _ _ fun p hp => nomatch hp
theorem ddp_snoc : ∀ (l acc : List (Int × Int)) (q : Int × Int), ddp acc (l ++ [q]) = if q ∈ ddp acc l then ddp acc l else ddp acc l ++ [q]
  | [], acc, q => rfl
  | p :: r, acc, q => by
    simp only [List.cons_append, ddp]
    split
    · exact ddp_snoc r acc q
    · exact ddp_snoc r _ q
theorem ddp_mem : ∀ (l acc : List (Int × Int)) (q : Int × Int), q ∈ l → q ∈ ddp acc l
  | p :: r, acc, q, h => by
    have keep : ∀ (l acc : List (Int × Int)), ∀ a ∈ acc, a ∈ ddp acc l := by
      intro l acc a ha
      rw [ddp_dnew]; exact List.mem_append_left _ ha
    simp only [ddp]
    rcases List.mem_cons.mp h with rfl | h
    · split
      · rename_i hq; exact keep _ _ _ hq
      · exact keep _ _ _ (List.mem_append_right _ (List.mem_singleton.mpr rfl))
    · split
      · exact ddp_mem r acc q h
      · exact ddp_mem r _ q h
theorem ddp_nodup : ∀ (l acc : List (Int × Int)), acc.Nodup → (ddp acc l).Nodup
  | [], _, h => h
  | p :: r, acc, h => by
    simp only [ddp]
    split
    · exact ddp_nodup r acc h
    · rename_i hp
      refine ddp_nodup r _ (List.nodup_append.mpr ⟨h, by simp, fun a ha b hb => ?_⟩)
      rw [List.mem_singleton.mp hb]; exact fun e => hp (e ▸ ha)
theorem ddp_len (l : List (Int × Int)) : ∀ acc, (ddp acc l).length ≤ acc.length + l.length := by
  induction l with
  | nil => intro acc; simp [ddp]
  | cons p r ih =>
    intro acc
    simp only [ddp]
    split
    · have := ih acc; simp only [List.length_cons]; omega
    · have := ih (acc ++ [p]); simp only [List.length_append, List.length_cons, List.length_nil] at this ⊢; omega

/-- the table that lets each stay -/
def stayT (l : List (Int × Int)) : Tab := l.map fun p => (p, p)
theorem tget_stay {l : List (Int × Int)} {p : Int × Int} (h : p ∈ l) : tget (stayT l) p = some p := by
  induction l with
  | nil => exact nomatch h
  | cons a r ih =>
    simp only [stayT, List.map_cons, tget] at ih ⊢
    split
    · rename_i e; rw [e]
    · rename_i e
      rcases List.mem_cons.mp h with rfl | h
      · exact absurd rfl e
      · exact ih h
theorem told_stays (x : Tr) : toldD (renT (stayT (ddp [] (refsT x))) x) = toldD x := told_stay x fun p hp => tget_stay (ddp_mem _ _ _ hp)

/-! no deeper, no larger -/
theorem maxL_le {a : List Nat} {n : Nat} (h : ∀ x ∈ a, x ≤ n) : maxL a ≤ n := by
  induction a with
  | nil => exact Nat.zero_le _
  | cons x r ih => have h1 := h x (.head _); have h2 := ih fun y hy => h y (.tail _ hy); simp only [maxL]; omega
theorem le_maxL {a : List Nat} {x : Nat} (h : x ∈ a) : x ≤ maxL a := by
  induction a with
  | nil => exact nomatch h
  | cons y r ih =>
    simp only [maxL]
    rcases List.mem_cons.mp h with rfl | h
    · omega
    · have := ih h; omega
theorem depth_rows {T : Tab} {ps : List (Str × Tr)} (h : ∀ r ∈ ps, dpT (renT T r.2) ≤ dpT r.2) : maxL ((((ps.map fun p => (p.1, renT T p.2)).filter fun p => !isNil p.2).map (·.2)).map dpT) ≤ maxL ((ps.map (·.2)).map dpT) := by
  refine maxL_le fun n hn => ?_
  obtain ⟨y, hy, rfl⟩ := List.mem_map.mp hn
  obtain ⟨q, hq, rfl⟩ := List.mem_map.mp hy
  obtain ⟨r, hr, rfl⟩ := List.mem_map.mp (List.mem_filter.mp hq).1
  exact Nat.le_trans (h r hr) (le_maxL (List.mem_map_of_mem (List.mem_map_of_mem hr)))
theorem dp_zip (ks : List Str) (xs : List Tr) : (ks.zip (dpM xs)).map (·.2) = ((ks.zip xs).map (·.2)).map dpT := by
  rw [dpM_eq, List.zip_map_right, List.map_map, List.map_map]; rfl
theorem depth_ren (T : Tab) : ∀ x, dpT (renT T x) ≤ dpT x := by
  refine tr_ind fun x h => ?_
  cases x with
  | ref n g => simp only [renT]; cases tget T (n, g) <;> simp [dpT]
  | arr xs =>
    simp only [renT, dpT, dpM_eq, renL_eq]
    refine Nat.succ_le_succ (maxL_le fun n hn => ?_)
    obtain ⟨y, hy, rfl⟩ := List.mem_map.mp hn
    obtain ⟨z, hz, rfl⟩ := List.mem_map.mp hy
    exact Nat.le_trans (h z hz) (le_maxL (List.mem_map_of_mem hz))
  | dict ks xs =>
    have e : dpT (renT T (.dict ks xs)) = maxL ((((renP T ks xs).map (·.1)).zip (dpM ((renP T ks xs).map (·.2)))).map (·.2)) + 1 := by simp only [renT, dpT, renP]
    rw [e, dp_zip, zip_fst_snd, renP_map, dpT, dp_zip]
    exact Nat.succ_le_succ (depth_rows fun r hr => h r.2 (List.of_mem_zip hr).2)
  | stream ks xs b =>
    have e : dpT (renT T (.stream ks xs b)) = maxL ((((renP T ks xs).map (·.1)).zip (dpM ((renP T ks xs).map (·.2)))).map (·.2)) + 1 := by simp only [renT, dpT, renP]
    rw [e, dp_zip, zip_fst_snd, renP_map, dpT, dp_zip]
    exact Nat.succ_le_succ (depth_rows fun r hr => h r.2 (List.of_mem_zip hr).2)
  | _ => simp [renT]
theorem size_rows {T : Tab} : ∀ ps : List (Str × Tr), (∀ r ∈ ps, szT (renT T r.2) ≤ szT r.2) → szL (((ps.map fun p => (p.1, renT T p.2)).filter fun p => !isNil p.2).map (·.2)) ≤ szL (ps.map (·.2))
  | [], _ => Nat.le_refl _
  | r :: R, h => by
    have ih := size_rows R fun q hq => h q (.tail _ hq)
    have h0 := h r (.head _)
    simp only [List.map_cons, List.filter_cons]
    split
    · simp only [List.map_cons, szL]; omega
    · simp only [szL]; omega
theorem size_ren (T : Tab) : ∀ x, szT (renT T x) ≤ szT x := by
  refine tr_ind fun x h => ?_
  cases x with
  | ref n g => simp only [renT]; cases tget T (n, g) <;> simp [szT]
  | arr xs =>
    simp only [renT, szT, renL_eq]
    have : ∀ xs : List Tr, (∀ y ∈ xs, szT (renT T y) ≤ szT y) → szL (xs.map (renT T)) ≤ szL xs := by
      intro xs
      induction xs with
      | nil => intro _; exact Nat.le_refl _
      | cons y r ih => intro hh; have h1 := hh y (.head _); have h2 := ih fun z hz => hh z (.tail _ hz); simp only [List.map_cons, szL]; omega
    have := this xs fun y hy => h y hy
    omega
  | dict ks xs =>
    have e : szT (renT T (.dict ks xs)) = szL ((renP T ks xs).map (·.2)) + 1 := by simp only [renT, szT, renP]
    have h1 := size_rows (T := T) (ks.zip xs) fun r hr => h r.2 (List.of_mem_zip hr).2
    rw [e, renP_map, szT]
    exact Nat.succ_le_succ (Nat.le_trans h1 szL_zip)
  | stream ks xs b =>
    have e : szT (renT T (.stream ks xs b)) = szL ((renP T ks xs).map (·.2)) + 1 := by simp only [renT, szT, renP]
    have h1 := size_rows (T := T) (ks.zip xs) fun r hr => h r.2 (List.of_mem_zip hr).2
    rw [e, renP_map, szT]
    exact Nat.succ_le_succ (Nat.le_trans h1 szL_zip)
  | _ => simp [renT]
theorem htL_le {xs : List Tr} {n : Nat} (h : ∀ x ∈ xs, ht x ≤ n) : htL xs ≤ n := by
  induction xs with
  | nil => exact Nat.zero_le _
  | cons x r ih => have h1 := h x (.head _); have h2 := ih fun y hy => h y (.tail _ hy); simp only [htL]; omega
theorem le_htL {xs : List Tr} {x : Tr} (h : x ∈ xs) : ht x ≤ htL xs := by
  obtain ⟨i, hi⟩ := List.mem_iff_getElem?.mp h
  exact htL_at hi
theorem ht_ren (T : Tab) : ∀ x, ht (renT T x) ≤ ht x := by
  have rows : ∀ (ks : List Str) (xs : List Tr), (∀ y ∈ xs, ht (renT T y) ≤ ht y) → htL ((renP T ks xs).map (·.2)) ≤ htL xs := by
    intro ks xs h
    refine htL_le fun y hy => ?_
    rw [renP_map] at hy
    obtain ⟨q, hq, rfl⟩ := List.mem_map.mp hy
    obtain ⟨r, hr, rfl⟩ := List.mem_map.mp (List.mem_filter.mp hq).1
    have hm := (List.of_mem_zip hr).2
    exact Nat.le_trans (h _ hm) (le_htL hm)
  refine tr_ind fun x h => ?_
  cases x with
  | ref n g => simp only [renT]; cases tget T (n, g) <;> simp [ht]
  | arr xs =>
    simp only [renT, ht, renL_eq]
    refine Nat.succ_le_succ (htL_le fun y hy => ?_)
    obtain ⟨z, hz, rfl⟩ := List.mem_map.mp hy
    exact Nat.le_trans (h z hz) (le_htL hz)
  | dict ks xs =>
    have e : ht (renT T (.dict ks xs)) = htL ((renP T ks xs).map (·.2)) + 1 := by simp only [renT, ht, renP]
    rw [e, ht]; exact Nat.succ_le_succ (rows ks xs fun y hy => h y hy)
  | stream ks xs b =>
    have e : ht (renT T (.stream ks xs b)) = htL ((renP T ks xs).map (·.2)) + 2 := by simp only [renT, ht, renP]
    rw [e, ht]; exact Nat.add_le_add_right (rows ks xs fun y hy => h y hy) 2
  | _ => simp [renT]
end
section
-- KV
/-! the same told is equal -/
theorem all_tt (n : Nat) : ((List.range n).all fun _ => true) = true := List.all_eq_true.mpr fun _ _ => rfl
mutual
def dpD : Dat → Nat
  | .tuple ds => dpDs ds + 1
  | .list ds => dpDs ds + 1
  | _ => 0
def dpDs : List Dat → Nat
  | [] => 0
  | d :: r => max (dpD d) (dpDs r)
end
theorem dat_int {S : Led} {v : Value} {i : Int} (h : DatIn S v (.int i)) : ∃ t, v = .int i t := by cases h; exact ⟨_, rfl⟩
theorem dat_str {S : Led} {v : Value} {x : Str} (h : DatIn S v (.str x)) : ∃ t, v = .str x t := by cases h; exact ⟨_, rfl⟩
theorem dat_bytes {S : Led} {v : Value} {x : Array UInt8} (h : DatIn S v (.bytes x)) : ∃ t, v = .bytes x t := by cases h; exact ⟨_, rfl⟩
theorem dat_none {S : Led} {v : Value} (h : DatIn S v .none) : v = .none := by cases h; rfl
theorem dat_bool {S : Led} {v : Value} {b : Bool} (h : DatIn S v (.bool b)) : v = .bool b := by cases h; rfl
theorem dat_tuple {S : Led} {v : Value} {ds : List Dat} (h : DatIn S v (.tuple ds)) : ∃ a vs n, v = .ref a ∧ (a, tupO vs n) ∈ S ∧ DatAll S vs ds := by cases h with | tuple a b => exact ⟨_, _, _, rfl, a, b⟩
theorem dat_list {S : Led} {v : Value} {ds : List Dat} (h : DatIn S v (.list ds)) : ∃ a vs n, v = .ref a ∧ (a, listOf vs.toArray n) ∈ S ∧ DatAll S vs ds := by cases h with | list a b => exact ⟨_, _, _, rfl, a, b⟩
theorem dats_cons {S : Led} {vs : List Value} {d : Dat} {ds : List Dat} (h : DatAll S vs (d :: ds)) : ∃ v r, vs = v :: r ∧ DatIn S v d ∧ DatAll S r ds := by cases h with | cons a b => exact ⟨_, _, rfl, a, b⟩
open PySem.SeqAt in
mutual
theorem eqDat {S : Led} {s : Shared} (hS : Stands s.heap S) (d : Dat) : ∀ {v u : Value} {A : Around}, A.units + dpD d < cLine → DatIn S v d → DatIn S u d → EqAt A s v u true := by
  intro v u A hu h k
  match d, hu, h, k with
  | .none, _, h, k => rw [dat_none h, dat_none k]; exact EqAt.same _
  | .bool b, _, h, k => rw [dat_bool h, dat_bool k]; exact EqAt.same _
  | .int i, _, h, k =>
    obtain ⟨t, rfl⟩ := dat_int h
    obtain ⟨u, rfl⟩ := dat_int k
    have h := EqAt.int_int (A := A) (s := s) i t i u
    rwa [beq_self_eq_true] at h
  | .str x, _, h, k =>
    obtain ⟨t, rfl⟩ := dat_str h
    obtain ⟨u, rfl⟩ := dat_str k
    have h := (eqGives_str x x t u).at A s
    rwa [beq_self_eq_true] at h
  | .bytes b, _, h, k =>
    obtain ⟨t, rfl⟩ := dat_bytes h
    obtain ⟨u, rfl⟩ := dat_bytes k
    exact fun prog w E Q h => eqBool_bytes (by rw [decide_eq_true rfl]; exact h)
  | .tuple ds, hu, h, k =>
    obtain ⟨a, vs, n, rfl, hm, ha⟩ := dat_tuple h
    obtain ⟨b, ws, kk, rfl, hn, hb⟩ := dat_tuple k
    by_cases e : a = b
    · subst e; exact EqAt.same _
    · refine EqAt.of_refs e ?_
      simp only [dpD] at hu
      have hl : vs.length = ws.length := by rw [dat_at ha, dat_at hb]
      have h1 := RcAt.tuples (A := A) (e := fun _ => true) (s := s) (l := a) (b := b) (items := vs.toArray) (items2 := ws.toArray) ⟨_, hS _ hm, rfl, n, rfl⟩ ⟨_, hS _ hn, rfl, kk, rfl⟩ (by omega) fun j h1 h2 => by
        have := eqDats hS ds (A := A.in1) (by rw [units_in1]; omega) ha hb j (by simpa using h1) (by simpa using h2)
        simpa using this
      simpa [hl, all_tt] using h1
  | .list ds, hu, h, k =>
    obtain ⟨a, vs, n, rfl, hm, ha⟩ := dat_list h
    obtain ⟨b, ws, kk, rfl, hn, hb⟩ := dat_list k
    by_cases e : a = b
    · subst e; exact EqAt.same _
    · refine EqAt.of_refs e ?_
      simp only [dpD] at hu
      have hl : vs.length = ws.length := by rw [dat_at ha, dat_at hb]
      have h1 := RcAt.lists (A := A) (e := fun _ => true) (s := s) (l := a) (b := b) (items := vs.toArray) (items2 := ws.toArray) ⟨_, hS _ hm, rfl, n, rfl⟩ ⟨_, hS _ hn, rfl, kk, rfl⟩ (by simp [hl]) (by omega) fun j h1 h2 => by
        have := eqDats hS ds (A := A.in1) (by rw [units_in1]; omega) ha hb j (by simpa using h1) (by simpa using h2)
        simpa using this
      simpa [all_tt] using h1
theorem eqDats {S : Led} {s : Shared} (hS : Stands s.heap S) (ds : List Dat) : ∀ {vs us : List Value} {A : Around}, A.units + dpDs ds < cLine → DatAll S vs ds → DatAll S us ds → ∀ (j : Nat) (h1 : j < vs.length) (h2 : j < us.length), EqAt A s vs[j] us[j] true := by
  intro vs us A hu h k j h1 h2
  match ds, hu, h, k with
  | [], _, h, _ => cases h; exact absurd h1 (Nat.not_lt_zero _)
  | d :: ds, hu, h, k =>
    simp only [dpDs] at hu
    obtain ⟨v, r, rfl, h, hr⟩ := dats_cons h
    obtain ⟨u, t, rfl, k, ht⟩ := dats_cons k
    cases j with
    | zero => exact eqDat hS d (by omega) h k
    | succ j =>
      have := eqDats hS ds (A := A) (by omega) hr ht j (by simpa using h1) (by simpa using h2)
      simpa using this
end
open PySem.SeqAt in
/-- two tuples that tell the same: not unequal -/
theorem ne_told {prog : Program} {w : World} {A : Around} {E : Value → Shared → Prop} {s : Shared} {S : Led} {v u : Value} {ds : List Dat} {Q : Value → Shared → Prop} (hS : Stands s.heap S) (hu : A.units + dpDs ds + 1 < cLine) (hv : DatIn S v (.tuple ds)) (hw : DatIn S u (.tuple ds)) (h : Q (.bool false) s) :
    wpAny (model prog w) A (compareOp .NotEq v u) Q E s := by
  cases hv with
  | @tuple a vs n _ hm ha =>
  cases hw with
  | @tuple b ws k _ hn hb =>
  have hl : vs.length = ws.length := by rw [dat_at ha, dat_at hb]
  have h1 := RcNeAt.tuples (A := A) (e := fun _ => true) (s := s) (l := a) (b := b) (items := vs.toArray) (items2 := ws.toArray) ⟨_, hS _ hm, rfl, n, rfl⟩ ⟨_, hS _ hn, rfl, k, rfl⟩ (by omega) fun j h1 h2 => by
    have := eqDats hS ds (A := A.in1) (by rw [units_in1]; omega) ha hb j (by simpa using h1) (by simpa using h2)
    simpa using this
  refine h1 prog w E Q ?_
  simpa [hl, all_tt] using h
open PySem.SeqAt in
theorem eq_told {prog : Program} {w : World} {A : Around} {E : Value → Shared → Prop} {s : Shared} {S : Led} {v u : Value} {ds : List Dat} {Q : Value → Shared → Prop} (hS : Stands s.heap S) (hu : A.units + dpDs ds + 1 < cLine) (hv : DatIn S v (.tuple ds)) (hw : DatIn S u (.tuple ds)) (h : Q (.bool true) s) :
    wpAny (model prog w) A (compareOp .Eq v u) Q E s := by
  cases hv with
  | @tuple a vs n _ hm ha =>
  cases hw with
  | @tuple b ws k _ hn hb =>
  have hl : vs.length = ws.length := by rw [dat_at ha, dat_at hb]
  have h1 := RcAt.tuples (A := A) (e := fun _ => true) (s := s) (l := a) (b := b) (items := vs.toArray) (items2 := ws.toArray) ⟨_, hS _ hm, rfl, n, rfl⟩ ⟨_, hS _ hn, rfl, k, rfl⟩ (by omega) fun j h1 h2 => by
    have := eqDats hS ds (A := A.in1) (by rw [units_in1]; omega) ha hb j (by simpa using h1) (by simpa using h2)
    simpa using this
  refine h1 prog w E Q ?_
  simpa [hl, all_tt] using h
open PySem.SeqAt in
theorem eq_lists {prog : Program} {w : World} {A : Around} {E : Value → Shared → Prop} {s : Shared} {S : Led} {a b : Addr} {vs ws : List Value} {n k : Nat} {ds : List Dat} {Q : Value → Shared → Prop} (hS : Stands s.heap S) (hu : A.units + dpDs ds + 1 < cLine)
    (hm : (a, listOf vs.toArray n) ∈ S) (hn : (b, listOf ws.toArray k) ∈ S) (ha : DatAll S vs ds) (hb : DatAll S ws ds) (h : Q (.bool true) s) :
    wpAny (model prog w) A (compareOp .Eq (.ref a) (.ref b)) Q E s := by
  have hl : vs.length = ws.length := by rw [dat_at ha, dat_at hb]
  have h1 := RcAt.lists (A := A) (e := fun _ => true) (s := s) (l := a) (b := b) (items := vs.toArray) (items2 := ws.toArray) ⟨_, hS _ hm, rfl, n, rfl⟩ ⟨_, hS _ hn, rfl, k, rfl⟩ (by simp [hl]) (by omega) fun j h1 h2 => by
    have := eqDats hS ds (A := A.in1) (by rw [units_in1]; omega) ha hb j (by simpa using h1) (by simpa using h2)
    simpa using this
  refine h1 prog w E Q ?_
  simpa [all_tt] using h

theorem toldD_tuple (x : Tr) : ∃ ds, toldD x = .tuple ds := by cases x <;> exact ⟨_, by rw [toldD]⟩
theorem dpDs_le {ds : List Dat} {n : Nat} (h : ∀ d ∈ ds, dpD d ≤ n) : dpDs ds ≤ n := by
  induction ds with
  | nil => exact Nat.zero_le _
  | cons d r ih => have h1 := h d (.head _); have h2 := ih fun y hy => h y (.tail _ hy); simp only [dpDs]; omega
theorem entD_mem : ∀ {l : List (Str × Option Dat)} {d : Dat}, d ∈ entD l → ∃ k e, d = .tuple [.str k, e] ∧ (k, some e) ∈ l
  | (k, some e) :: r, d, h => by
    simp only [entD] at h
    rcases List.mem_cons.mp h with rfl | h
    · exact ⟨k, e, rfl, .head _⟩
    · obtain ⟨k', e', a, b⟩ := entD_mem h; exact ⟨k', e', a, .tail _ b⟩
  | (k, none) :: r, d, h => by
    simp only [entD] at h
    obtain ⟨k', e', a, b⟩ := entD_mem h; exact ⟨k', e', a, .tail _ b⟩
theorem toldL_mem : ∀ {xs : List Tr} {d : Dat}, d ∈ toldL xs → ∃ x ∈ xs, d = toldD x
  | x :: r, d, h => by
    simp only [toldL] at h
    rcases List.mem_cons.mp h with rfl | h
    · exact ⟨x, .head _, rfl⟩
    · obtain ⟨y, a, b⟩ := toldL_mem h; exact ⟨y, .tail _ a, b⟩
theorem told_depth : ∀ x : Tr, dpD (toldD x) ≤ 2 * ht x + 1 := by
  have ent : ∀ (ks : List Str) (xs : List Tr), (∀ y ∈ xs, dpD (toldD y) ≤ 2 * ht y + 1) → dpDs (entD (sortK (ks.zip (toldN xs)))) ≤ 2 * htL xs + 2 := by
    intro ks xs h
    refine dpDs_le fun d hd => ?_
    obtain ⟨k, e, rfl, hm⟩ := entD_mem hd
    have hm2 := (sortK_perm _).mem_iff.mp hm
    have hm3 := (List.of_mem_zip hm2).2
    rw [toldN_eq] at hm3
    obtain ⟨y, hy, e2⟩ := List.mem_map.mp hm3
    unfold optD at e2
    split at e2
    · cases e2
    · cases e2
      have h1 := h y hy
      have h2 := le_htL hy
      simp only [dpD, dpDs]; omega
  refine tr_ind fun x h => ?_
  cases x with
  | arr xs =>
    have : dpDs (toldL xs) ≤ 2 * htL xs + 1 := dpDs_le fun d hd => by
      obtain ⟨y, hy, rfl⟩ := toldL_mem hd
      have h1 := h y hy
      have h2 := le_htL hy
      omega
    simp only [toldD, dpD, dpDs, ht]; omega
  | dict ks xs => have := ent ks xs fun y hy => h y hy; simp only [toldD, dpD, dpDs, ht]; omega
  | stream ks xs b => have := ent ks xs fun y hy => h y hy; simp only [toldD, dpD, dpDs, ht]; omega
  | _ => simp [toldD, dpD, dpDs]
end
section
-- K10
section
variable {w : World} {A : Around} {s : Shared} {x dx : Addr} {R : Result → Shared → Prop}
theorem init_dec {i j : Int} {t u : Tok} (X : Foot w (hideAll s.heap ([(x, instObj 143 dx), (dx, dictOf [] 0)].map (·.1)))) (hx : s.heap.get? x = some (instObj 143 dx)) (hdx : s.heap.get? dx = some (dictOf [] 0)) (hlt : @LT.lt Nat _ dx x) (hroom : A.depth < recursionLimit)
    (ret : ∀ h' i' j' h1 h2 t1 t2 n t' u' tk, (∀ b o, b ≠ dx → s.heap.get? b = some o → h'.get? b = some o) → h'.get? dx = some (dictOf [⟨h1, .str (Str.ofString "top") t1, .int i' t'⟩, ⟨h2, .str (Str.ofString "places") t2, .int j' u'⟩] n) → R (.ok (.ret .none)) { s with heap := h', toks := tk }) :
    codeAny (model PySem.Challenge.rw_og0158_01.row.prog w) A (.call (.ref 63) ⟨[.ref x, .int i t, .int j u], []⟩) R s := by
  k_dflt (refine' enter (binds := [(Str.ofString "self", .ref x), (Str.ofString "top", .int i t), (Str.ofString "places", .int j u)]) [(x, instObj 143 dx), (dx, dictOf [] 0)] X ?km ?k6 ?k7 ?k8 ?k9 ?kB ?_ ?c2 ?c3 ?c4 ?c5; (case km => exact fun p hp => by rcases List.mem_cons.mp hp with rfl | hp; exact hx; rw [List.mem_singleton.mp hp]; exact hdx); (case k6 => k_is); (case k7 => k_is); (case k8 => exact hroom); (case k9 => exact BindsTo.of_eq rfl); (case c5 => decide); (case kB => exact locs rfl); (case c2 => exact rfl); (case c3 => exact rfl); (case c4 => exact rfl); k_whole)
  intro g' L' h' G' F' N' l1 X' T'
  obtain ⟨mean, mg, mb, T'⟩ := T'
  k_fold
  k_steps
  refine Halt.mk ?_
  refine While_inv2 (fun n m news => ∃ i' j' t' u', m (Str.ofString "self") = some (.ref x) ∧ m (Str.ofString "top") = some (.int i' t') ∧ m (Str.ofString "places") = some (.int j' u') ∧ n = j'.toNat ∧ news = [(x, instObj 143 dx), (dx, dictOf [] 0)]) F' N' ⟨i, j, t, u, rfl, rfl, rfl, rfl, rfl⟩ ?_
  rintro n m₁ news₁ h₁ tk₁ F₁ N₁ ⟨i', j', t', u', e1, e2, e3, rfl, rfl⟩
  k_steps
  all_goals (
    rename Fr _ _ _ _ => F2
    rename News _ _ _ _ => N2)
  all_goals first
    | (refine ⟨_, _, _, _, _, rfl, F2, N2, ?_, _, _, _, _, (by ktr_room), (by ktr_room), (by ktr_room), rfl, rfl⟩; omega)
    | (obtain ⟨a, b⟩ := init_end G' hx F2 N2; exact ret _ _ _ _ _ _ _ _ _ _ _ a b)
end
section
variable {w : World} {A : Around} {s : Shared} {g : Heap} {L : Addr} {m : Str → Option Value} {news : Led} {Q E : Value → Shared → Prop}
theorem new_dec {i j : Int} {t u : Tok} (F : Fr g L s.heap m) (X : Foot w g) (N : News g L s.heap news) (hr : A.depth + 1 < recursionLimit)
    (ret : MadePost g L m news s 143 (fun o => ∃ i' j' h1 h2 t1 t2 n t' u', o = dictOf [⟨h1, .str (Str.ofString "top") t1, .int i' t'⟩, ⟨h2, .str (Str.ofString "places") t2, .int j' u'⟩] n) Q) :
    wpAny (model PySem.Challenge.rw_og0158_01.row.prog w) A (call (.ref 143) [.int i t, .int j u]) Q E s :=
  new_obj F X N (by k_is) (by k_is) (by k_is) hr (fun A' s' x dx R hr' X' hx hdx hlt k => init_dec X' hx hdx hlt hr' fun h' i' j' h1 h2 t1 t2 n t' u' tk a b => k h' _ tk a b ⟨i', j', h1, h2, t1, t2, n, t', u', rfl⟩) ret
end
end
local macro_rules | `(tactic| walk_at "exec For") => `(tactic| (k_here; refine Halt.go ?_))
local macro_rules | `(tactic| walk_at "exec For Name Call cons nil") => `(tactic| (k_here; refine Halt.go ?_))
local macro_rules | `(tactic| walk_at "exec For Name Name cons nil") => `(tactic| (k_here; refine Halt.go ?_))
local macro_rules | `(tactic| walk_at "pyIter ref") => `(tactic| (k_here; (with_reducible show wpAny _ _ (pyIter (Value.ref _)) (fun it s₂ => LoopAtV _ _ _ _ _ _ _ _ _ it s₂) _ _); refine Halt.go ?_))
local macro_rules | `(tactic| walk_at "call ref") => `(tactic| (k_here; k_dflt (show wpAny _ _ (call (Value.ref 143) [Value.int _ _, Value.int _ _]) _ _ _); k_dflt (refine new_dec (by assumption) ⟨by assumption, _, _, _, by assumption⟩ (by assumption) (by simp only [depth_deeper]; omega) ?_); intro x' d' o' h' tk' f' F' N' D'; k_sweep))
section
-- K11
theorem For_F {prog : Program} {w : World} {A : Around} {E : Value → Shared → Prop} {s : Shared} {env : Env} {g : Heap} {m : Str → Option Value} {Q : Flow → Shared → Prop} {x : Str} {px pos : Pos} {iter : Expr} {body : List Stmt} (_F : Fr g env.locals s.heap m) (hx : env.kindOf x = some .local)
    (hp : (env.scope.kind == .class || (env.scope.kind == .module && env.locals != env.globals)) = false)
    (h : wpAny (model prog w) A (eval iter env) (fun xv s₁ => wpAny (model prog w) A (pyIter xv) (fun it s₂ => LoopAtV prog w A g env x body Q E it s₂) E s₁) E s)
    (hs : ∀ x, foldedSetIterable iter env x = pure x := by intro _; rfl)
    (hE : PassesOwn (model prog w) A env E := by passes_own) :
    wpAny (model prog w) A (exec (.For (.Name x px) iter body [] pos) env) Q E s := For_invV g hx hp h hs hE

section
local macro_rules | `(tactic| walk_at "execs nil") => `(tactic| (k_here; refine Halt.go ?_))
theorem pen_spec {w : World} {dp un : Nat} {fr : Option (List Env)} {gd : Option (List Code)} {s : Shared} {scr : Addr} {vs : List Value} {ns : List Int} {Q E : Value → Shared → Prop}
    (X : Foot w (hideAll s.heap (([] : Led).map (·.1)))) (hl : (hideAll s.heap (([] : Led).map (·.1))).IsList scr vs.toArray) (hi : IntsAre vs ns) (h63 : ns.length ≤ 63) (hd1 : dp + 10 < recursionLimit) (hu : un + 200 < cLine)
    (ret : ∀ D i t u tl h' tk', Made s.heap h' tl → (D, listOf #[.int i t, .int 0 u] 0) ∈ tl → 0 ≤ i → Q (.ref D) { s with heap := h', toks := tk' }) :
    wpAny (model PySem.Challenge.rw_og0158_01.row.prog w) (ar dp un fr gd) (call (.ref 296) [.ref scr]) Q E s := by
  have hcl := cLine_is
  have hS : Stands s.heap [] := fun p hp => nomatch hp
  refine wpAny_call ?_
  k_dflt (refine' enter (binds := [(Str.ofString "script", .ref scr)]) [] X hS ?k6 ?k7 ?k8 ?k9 ?kB ?_ ?c2 ?c3 ?c4 ?c5; (case k6 => k_is); (case k7 => k_is); (case k8 => (dsimp only; omega)); (case k9 => exact BindsTo.of_eq rfl); (case c5 => decide); (case kB => exact locs rfl); (case c2 => exact rfl); (case c3 => exact rfl); (case c4 => exact rfl); k_whole)
  intro g' L' h' G' F' N' l1 X' T'
  obtain ⟨mean, mg, mb, T'⟩ := T'
  have hlg : g'.IsList scr vs.toArray := hl.at fun o e => G' _ _ (of_hideAll _ e) (by simp)
  have hlh : h'.IsList scr vs.toArray := hlg.at fun o e => F'.keep _ _ e
  (try k_unmd)
  (try dsimp only)
  k_fold
  k_steps
  rename Fr _ _ _ _ => F1
  rename News _ _ _ _ => N1
  refine Halt.mk (For_F F1 rfl rfl ?_)
  k_steps
  rename Fr _ _ _ _ => F2
  rename News _ _ _ _ => N2
  rename IntsAre _ (List.take _ _) => hI
  rename_i D ws h2 hC hL l9
  have hIl := hI.length
  refine Halt.mk (for_src (fun i m news => ∃ t a, news = [(D, listOf (List.toArray ws) 0)] ∧ m (Str.ofString "number") = some (.int a t) ∧ 0 ≤ a) [(D, listOf (List.toArray ws) 0)] (src_list rfl (N2.isList (.head _))) F2 N2 ?_ ?_ ⟨_, 0, rfl, by ktr_room, Int.le_refl _⟩ ?_ ?_)
  · exact hss_one (.head _)
  · rintro i m led ⟨_, _, rfl, _⟩ p hp; exact hp
  · rintro i v m₁ news₁ h tk own hi hv ⟨t, a, rfl, em, ha⟩ ho F3 N3
    obtain ⟨k, tt, rfl⟩ : ∃ k tt, v = .int k tt := by
      obtain ⟨tt, e⟩ := hI.get i _ (List.getElem?_eq_getElem (by rw [← hIl]; exact hi))
      rw [hv] at e
      exact ⟨_, tt, Option.some.inj e⟩
    k_steps
    all_goals (
      refine Halt.mk (wpAny_execs_nil ?_)
      rename Fr _ _ _ _ => F4
      rename News _ _ _ _ => N4
      (show ForEnd _ _ _ _ _ _ _ { heap := _, gens := s.gens, drawn := s.drawn, toks := _, os := s.os })
      refine ⟨_, _, _, _, rfl, F4, N4, ho, _, _, rfl, if_pos rfl, ?_⟩)
    all_goals (split <;> omega)
  · rintro m₁ news₁ h tk ⟨t, a, rfl, em, ha⟩ F3 N3
    k_steps
    rename Fr _ _ _ _ => F4
    rename News _ _ _ _ => N4
    show Q _ _
    refine ret _ _ _ _ _ _ _ (made_spl (S := []) (by ktr_unf) G' hS F4 N4 (fun p hp q hq => nomatch hq)) (.head _) ha
end
end
section
-- K12
/-- the pen: a number not below 0, a count of draws -/
abbrev penO (i j : Int) (t u : Tok) (n : Nat) : Obj := listOf #[.int i t, .int j u] n

theorem draw_spec {w : World} {dp un : Nat} {fr : Option (List Env)} {gd : Option (List Code)} {s : Shared} {D : Addr} {i j many : Int} {t u tm : Tok} {n : Nat} {Q E : Value → Shared → Prop}
    (X : Foot w (hideAll s.heap ([(D, penO i j t u n)].map (·.1)))) (hD : s.heap.get? D = some (penO i j t u n)) (hi : 0 ≤ i) (hj : 0 ≤ j) (hj2 : j ≤ 100000) (hm : 0 < many) (hm2 : many ≤ 100) (hd1 : dp + 10 < recursionLimit) (hu : un + 200 < cLine)
    (ret : ∀ v t' i' t1 t2 n' h' tk, (∀ b o, b ≠ D → s.heap.get? b = some o → h'.get? b = some o) → h'.get? D = some (penO i' (j + 1) t1 t2 n') → 0 ≤ i' → 0 ≤ v → v < many → Q (.int v t') { s with heap := h', toks := tk }) :
    wpAny (model PySem.Challenge.rw_og0158_01.row.prog w) (ar dp un fr gd) (call (.ref 303) [.ref D, .int many tm]) Q E s := by
  have hcl := cLine_is
  refine wpAny_call ?_
  k_dflt (refine' enter (binds := [(Str.ofString "pen", .ref D), (Str.ofString "many", .int many tm)]) [(D, penO i j t u n)] X ?km ?k6 ?k7 ?k8 ?k9 ?kB ?_ ?c2 ?c3 ?c4 ?c5; (case km => exact fun p hp => by rw [List.mem_singleton.mp hp]; exact hD); (case k6 => k_is); (case k7 => k_is); (case k8 => (dsimp only; omega)); (case k9 => exact BindsTo.of_eq rfl); (case c5 => decide); (case kB => exact locs rfl); (case c2 => exact rfl); (case c3 => exact rfl); (case c4 => exact rfl); k_whole)
  intro g' L' h' G' F' N' l1 X' T'
  obtain ⟨mean, mg, mb, T'⟩ := T'
  (try k_unmd)
  (try dsimp only)
  k_fold
  k_steps
  · rename Fr _ _ _ _ => F2
    rename News _ _ _ _ => N2
    show Q _ _
    refine ret _ _ _ _ _ _ _ _ (fun b o hb e => F2.keep b o (G' b o e (by simpa using hb))) (N2.get (.head _)) ?_ ?_ ?_
    · show 0 ≤ Int.fdiv i many
      exact Int.fdiv_nonneg hi (Int.le_of_lt hm)
    · show 0 ≤ Int.fmod i many
      exact Int.fmod_nonneg_of_pos _ hm
    · show Int.fmod i many < many
      exact Int.fmod_lt_of_pos _ hm
  · (try k_unmd)
    (show wpAny _ _ (binaryOp .Mult (.int (j + 1) _) (.int (j + 1) _)) _ _ _)
    refine PyProof.Rows.mul_int ?_ ?_
    · k_steps
      rename Fr _ _ _ _ => F2
      rename News _ _ _ _ => N2
      show Q (.int (Int.fmod ((j + 1) * (j + 1) + 1) many) _) { heap := _, gens := s.gens, drawn := s.drawn, toks := _, os := s.os }
      refine ret _ _ _ _ _ _ _ _ (fun b o hb e => F2.keep b o (G' b o e (by simpa using hb))) (N2.get (.head _)) hi ?_ ?_
      · exact Int.fmod_nonneg_of_pos _ hm
      · exact Int.fmod_lt_of_pos _ hm
    · have h20 : (j + 1).natAbs < 2 ^ 20 := by omega
      exact IntMulOk.of_left (PySem.intBits_le_iff.mpr (Nat.lt_of_lt_of_le h20 (Nat.pow_le_pow_right (by decide) (by decide))))

theorem Spl.mem {S l tl : Led} (h : Spl S l tl) {p : Addr × Obj} (hp : p ∈ S) : p ∈ l := by rw [h.eq]; exact List.mem_append_right _ hp
section
variable {w : World} {dp un : Nat} {fr : Option (List Env)} {gd : Option (List Code)} {s : Shared} {g : Heap} {L D : Addr} {m : Str → Option Value} {news tl : Led} {Q E : Value → Shared → Prop}
theorem draw_K {mean : ExcName → Option Value} {mg mb : Str → Option Value} {i j many : Int} {t u tm : Tok} {n : Nat} (F : Fr g L s.heap m) (N : News g L s.heap news) (X : (hd.heap_1 w.params).In g) (T : Top hdV (looseW hdV [Str.ofString "PaperError"]) mean mg mb g)
    (sp : Spl [(D, penO i j t u n)] news tl) (off : ∀ p ∈ tl, p.1 ≠ D) (hi : 0 ≤ i) (hj : 0 ≤ j) (hj2 : j ≤ 100000) (hm : 0 < many) (hm2 : many ≤ 100) (hd1 : dp + 10 < recursionLimit) (hu : un + 200 < cLine)
    (ret : ∀ v t' i' t1 t2 n' h' tk, Fr g L h' m → News g L h' (tl ++ [(D, penO i' (j + 1) t1 t2 n')]) → 0 ≤ i' → 0 ≤ v → v < many → Q (.int v t') { s with heap := h', toks := tk }) :
    wpAny (model PySem.Challenge.rw_og0158_01.row.prog w) (ar dp un fr gd) (call (.ref 303) [.ref D, .int many tm]) Q E s := by
  have hD := sp.mem (List.mem_singleton.mpr rfl)
  refine draw_spec (foot_of ⟨X, _, _, _, T⟩ F N fun p hp => by rw [List.mem_singleton.mp hp]; exact hD) (N.get hD) hi hj hj2 hm hm2 hd1 hu fun v t' i' t1 t2 n' h' tk k ho a b c => ?_
  refine ret v t' i' t1 t2 n' h' tk (keep_but F N hD k) (fun p hp => ?_) a b c
  rcases List.mem_append.mp hp with hp | hp
  · have hpn : p ∈ news := by rw [sp.eq]; exact List.mem_append_left _ hp
    exact ⟨k _ _ (off p hp) (N p hpn).1, (N p hpn).2⟩
  · rw [List.mem_singleton.mp hp]; exact ⟨ho, (N _ hD).2⟩
end
end
local macro_rules | `(tactic| ktr_units) => `(tactic| first | assumption | exact List.forall_mem_nil _ | (refine List.forall_mem_append.mpr ⟨?_, ?_⟩ <;> ktr_units) | (refine List.forall_mem_cons.mpr ⟨?_, ?_⟩ <;> ktr_units) | (refine neN ?_; (try dsimp only); omega))
local macro_rules | `(tactic| walk_at "call ref") => `(tactic| (k_here; k_dflt (show wpAny _ _ (call (Value.ref 303) [Value.ref _, Value.int _ _]) _ _ _); k_dflt (refine draw_K (by assumption) (by assumption) (by assumption) (by assumption) (by ktr_unf) (by ktr_units) (by first | assumption | omega) (by first | assumption | omega) (by first | assumption | omega) (by first | assumption | decide | omega) (by first | assumption | decide | omega) (by dsimp only; first | assumption | omega) (by dsimp only; first | assumption | omega) ?_); intro v' t' i' t1' t2' n' h' tk' F' N' a' b' c'; (simp only [List.cons_append, List.nil_append, List.append_assoc] at N'); k_sweep))
section
-- K13
theorem src_range {prog : Program} {w : World} {A : Around} {s : Shared} {r : Addr} {a b c : Int} {t u v : Tok} {n : Nat} (hh : A.handled = none) (hr : IsRange s.heap r a b c t u v) (hsm : Builtin.Range.small a b c = true) (hn : Builtin.Range.rangeSize a b c = n) :
    Src prog w A (.ref r) [] n (fun i v => ∃ t, v = .int (a + i * c) t) s := by
  intro Q E h
  refine wpAny_pyIter_range hr hsm ?_
  have W := Walks.range (prog := prog) (w := w) hh s.heap.objs.size a c n
  refine h s.heap.objs.size _ _ _ _ s.toks W (fun i h st b hb => ?_) ?_ (fun b hb => ?_) (fun b hb => .inr hb) (fun b hb => ?_) (fun b o e => Heap.get?_push_of_some _ e)
  · rw [List.mem_singleton.mp hb]; exact ⟨_, st⟩
  · show (s.heap.push _).get? _ = _
    rw [hn, Heap.get?_push_size _ rfl]
    simp
  · rw [List.mem_singleton.mp hb]
    show _ < (s.heap.push _).objs.size
    rw [Heap.size_push]; exact Nat.lt_succ_self _
  · rw [List.mem_singleton.mp hb]; exact fresh_top _

theorem TabRows.put {S : Led} {xs : PairRows} {T : Tab} (h : TabRows S xs T) {x y i j : Int} {ka b : Addr} {t u : Tok} {n : Nat} (hb : (b, pairO i j t u n) ∈ S) : ∃ T', TabRows S (storedH xs [x, y] ka (.ref b)) T' := by
  have hmap : ∃ T', TabRows S (xs.map (putAt [x, y] (.ref b))) T' := by
    induction h with
    | nil => exact ⟨[], .nil⟩
    | @cons b0 ka0 i0 j0 x0 y0 t0 u0 n0 xs T hm _ ih =>
      obtain ⟨T', ih⟩ := ih
      by_cases e : [x0, y0] = [x, y]
      · refine ⟨((x0, y0), (i, j)) :: T', ?_⟩
        simp only [List.map_cons, putAt, e, if_true]
        simp only [List.cons.injEq, and_true] at e
        rw [e.1, e.2]
        exact .cons hb ih
      · refine ⟨((x0, y0), (i0, j0)) :: T', ?_⟩
        simp only [List.map_cons, putAt, if_neg e]
        exact .cons hm ih
  have happ : ∃ T', TabRows S (xs ++ [([x, y], ka, .ref b)]) T' := by
    clear hmap
    induction h with
    | nil => exact ⟨[((x, y), (i, j))], .cons hb .nil⟩
    | cons hm _ ih => obtain ⟨T', ih⟩ := ih; exact ⟨_, .cons hm ih⟩
  unfold storedH
  split
  · exact hmap
  · exact happ
theorem TabRows.nodup {S : Led} {xs : PairRows} {T : Tab} (h : TabRows S xs T) : (xs.map (·.1)).Nodup → (T.map (·.1)).Nodup := by
  have keys : xs.map (·.1) = T.map fun p => [p.1.1, p.1.2] := by
    induction h with
    | nil => rfl
    | cons _ _ ih => simp [ih]
  rw [keys]
  intro hn
  have : (T.map fun p => [p.1.1, p.1.2]) = (T.map (·.1)).map fun q => [q.1, q.2] := by rw [List.map_map]; rfl
  rw [this] at hn
  exact (List.pairwise_map.mp hn).imp fun h e => h (by rw [e])

theorem TabRows.length {S : Led} {xs : PairRows} {T : Tab} (h : TabRows S xs T) : xs.length = T.length := by
  induction h with
  | nil => rfl
  | cons _ _ ih => simp [ih]
theorem Off.ne1 {S : Led} {p q : Addr × Obj} {d : Addr} {o : Obj} (h : Off S [p, q]) (hm : (d, o) ∈ S) : p.1 ≠ d := (h p (.head _) _ hm).symm
theorem Off.ne2 {S : Led} {p q : Addr × Obj} {d : Addr} {o : Obj} (h : Off S [p, q]) (hm : (d, o) ∈ S) : q.1 ≠ d := (h q (.tail _ (.head _)) _ hm).symm
theorem Off.ne0 {S : Led} {p : Addr × Obj} {d : Addr} {o : Obj} (h : Off S [p]) (hm : (d, o) ∈ S) : p.1 ≠ d := (h p (.head _) _ hm).symm
theorem storedH_len (xs : PairRows) (k : List Int) (a : Addr) (v : Value) : (storedH xs k a v).length ≤ xs.length + 1 := by
  unfold storedH
  split
  · simp
  · simp
theorem news_lt {g h : Heap} {L : Addr} {news : Led} (N : News g L h news) : ∀ p ∈ news, p.1 < h.objs.size := fun p hp => Heap.lt_size (N p hp).1

/-- between the turns of _law_table -/
def TabInv (w : World) (D : Addr) (jm : Int) (c : Nat) (m : Str → Option Value) (news : Led) : Prop :=
  ∃ Dt o xs T tl i j t u n, news = (Dt, o) :: (tl ++ [(D, penO i j t u n)]) ∧ m (Str.ofString "table") = some (.ref Dt) ∧ m (Str.ofString "pen") = some (.ref D) ∧ (Dt == sysModules) = false ∧ Dt ≠ D ∧ (∀ p ∈ tl, p.1 ≠ D) ∧ (∀ p ∈ tl, p.1 ≠ Dt) ∧
    0 ≤ i ∧ 0 ≤ j ∧ j ≤ jm ∧ PairDict PySem.Challenge.rw_og0158_01.row.prog w tl o xs ∧ TabRows tl xs T ∧ xs.length ≤ c

theorem table_spec {w : World} {dp un : Nat} {fr : Option (List Env)} {gd : Option (List Code)} {s : Shared} {D : Addr} {i j : Int} {t u : Tok} {n : Nat} {Q E : Value → Shared → Prop}
    (X : Foot w (hideAll s.heap ([(D, penO i j t u n)].map (·.1)))) (hD : s.heap.get? D = some (penO i j t u n)) (hi : 0 ≤ i) (hj : 0 ≤ j) (hj2 : j ≤ 90000) (hd1 : dp + 20 < recursionLimit) (hu : un + 300 < cLine)
    (ret : ∀ Dt T i' j' t1 t2 n' tl h' tk, (∀ b o, b ≠ D → s.heap.get? b = some o → h'.get? b = some o) → h'.get? D = some (penO i' j' t1 t2 n') → 0 ≤ i' → 0 ≤ j' → j' ≤ j + 30 → (∀ p ∈ tl, h'.get? p.1 = some p.2 ∧ s.heap.get? p.1 = none) → TabIn PySem.Challenge.rw_og0158_01.row.prog w tl Dt T → (T.map (·.1)).Nodup → T.length ≤ 20 → Q (.ref Dt) { s with heap := h', toks := tk }) :
    wpAny (model PySem.Challenge.rw_og0158_01.row.prog w) (ar dp un fr gd) (call (.ref 315) [.ref D]) Q E s := by
  have hcl := cLine_is
  refine wpAny_call ?_
  k_dflt (refine' enter (binds := [(Str.ofString "pen", .ref D)]) [(D, penO i j t u n)] X ?km ?k6 ?k7 ?k8 ?k9 ?kB ?_ ?c2 ?c3 ?c4 ?c5; (case km => exact fun p hp => by rw [List.mem_singleton.mp hp]; exact hD); (case k6 => k_is); (case k7 => k_is); (case k8 => (dsimp only; omega)); (case k9 => exact BindsTo.of_eq rfl); (case c5 => decide); (case kB => exact locs rfl); (case c2 => exact rfl); (case c3 => exact rfl); (case c4 => exact rfl); k_whole)
  intro g' L' h' G' F' N' l1 X' T'
  obtain ⟨mean, mg, mb, T'⟩ := T'
  (try k_unmd)
  (try dsimp only)
  k_fold
  k_steps
  rename Fr _ _ _ _ => F1
  rename News _ _ _ _ => N1
  refine Halt.mk (For_F F1 rfl rfl ?_)
  k_steps
  rename IsRange _ _ _ _ _ _ _ _ => hR
  rename Obj.IsDictOf _ _ [] => hE
  rename (_ == sysModules) = false => lo
  rename Fr _ _ _ _ => F2
  rename News _ _ _ _ => N2
  rename _ < _ => l2
  refine Halt.mk (for_src (fun k m news => TabInv w D (j + 6 * k) (2 * k) m news) [] (src_range rfl hR (by decide) (n := 5) rfl) F2 N2 (fun _ h => nomatch h) (fun _ _ _ _ _ h => nomatch h) ⟨_, _, [], [], [], i, j, t, u, n, rfl, by ktr_room, rfl, lo, Nat.ne_of_gt l2, (fun _ h => nomatch h), (fun _ h => nomatch h), hi, hj, by omega, pairDict_nil hE, .nil, Nat.le_refl _⟩ ?_ ?_)
  · rintro k v m₁ news₁ h tk own hk ⟨tv, rfl⟩ hJ ho F3 N3
    obtain ⟨Dt, o, xs, T, tl, i, j1, t, u, n, rfl, e1, e2, lo, hne, hpD, hpT, hi, hj0, hj1, hP, hTR, hlen⟩ := hJ
    k_steps
    refine Halt.mk (For_F F3 rfl rfl ?_)
    k_steps
    rename IsRange _ _ _ _ _ _ _ _ => hR2
    rename Fr _ _ _ _ => F4
    rename News _ _ _ _ => N4
    have hk' : k < 5 := hk
    refine Halt.mk (for_src (fun r m led => ∃ led', led = own ++ led' ∧ Off own led' ∧ m (Str.ofString "number") = some (.int (1 + (k : Int) * 1) tv) ∧ TabInv w D (j1 + 3 * r) (2 * k + r) m led') [] (src_range rfl hR2 (by decide) (n := 2) rfl) F4 N4 (fun _ h => nomatch h) (fun _ _ _ _ _ h => nomatch h)
      ⟨_, rfl, ho, if_pos rfl, Dt, o, xs, T, tl, i, j1, t, u, n, rfl, by ktr_room, by ktr_room, lo, hne, hpD, hpT, hi, hj0, by omega, hP, hTR, hlen⟩ ?_ ?_)
    · rintro r v m₂ news₂ h2 tk2 own2 hr ⟨tv2, rfl⟩ ⟨led', rfl, ho2, en, Dt, o, xs, T, tl, i, j2, t, u, n, rfl, e1, e2, lo, hne, hpD, hpT, hi, hj0, hj2, hP, hTR, hlen⟩ ho3 F5 N5
      have hr' : r < 2 := hr
      have hoD : ∀ p ∈ own, p.1 ≠ D := fun p hp => ho2 (D, penO i j2 t u n) (.tail _ (List.mem_append_right _ (.head _))) p hp
      have hoD2 : ∀ p ∈ own2, p.1 ≠ D := fun p hp => ho3 (D, penO i j2 t u n) (List.mem_append_right _ (.tail _ (List.mem_append_right _ (.head _)))) p hp
      have hDt : (Dt, o).1 ≠ D := hne
      have hb0 : j2 ≤ 100000 := by omega
      have hb1 : j2 + 1 ≤ 100000 := by omega
      have hb2 : j2 + 1 + 1 ≤ 100000 := by omega
      have hn1 : 0 ≤ j2 + 1 := by omega
      have hn2 : 0 ≤ j2 + 1 + 1 := by omega
      have hdp : dp + 1 + 10 < recursionLimit := by omega
      have hup : un + 3 + 200 < cLine := by omega
      k_steps
      · rename Fr _ _ _ _ => F8
        rename News _ _ _ _ => N8
        rename_i v1 tv1 i1 t11 t12 n1 h1 tk1 a1 b1 c1 v0 tv0 i0 t01 t02 n0 hA tkA FA a0 b0 c0 NA hB FB NB kB mB hC kC mC
        (try dsimp only at N8 NB)
        have lA := news_lt NA
        have lB := news_lt NB
        have mDt : (Dt, o) ∈ own2 ++ (own ++ (Dt, o) :: (tl ++ [(D, penO i0 (j2 + 1 + 1 + 1) t01 t02 n0)])) := by tb_start
        have mD : (D, penO i0 (j2 + 1 + 1 + 1) t01 t02 n0) ∈ own2 ++ (own ++ (Dt, o) :: (tl ++ [(D, penO i0 (j2 + 1 + 1 + 1) t01 t02 n0)])) := by tb_start
        refine set_pair (keep := (hB.objs.size, pairO (1 + (k : Int) * 1) (0 + (r : Int) * 1) tv tv2 0) :: (hA.objs.size, pairO (1 + v1) v0 tk1 tv0 0) :: (own2 ++ (own ++ (tl ++ [(D, penO i0 (j2 + 1 + 1 + 1) t01 t02 n0)])))) (S := tl) (by simp only [units_deeper]; omega) F8 N8 (by tb_start) hP (by tb_rel) (.head _) ?_ (by rw [sizeLine_eq]; omega) ?_
        · intro p hp
          rcases List.mem_cons.mp hp with rfl | hp
          · exact ⟨.head _, Nat.ne_of_gt (lB _ (.tail _ mDt))⟩
          rcases List.mem_cons.mp hp with rfl | hp
          · exact ⟨.tail _ (.head _), Nat.ne_of_gt (lA _ mDt)⟩
          rcases List.mem_append.mp hp with hp | hp
          · exact ⟨.tail _ (.tail _ (List.mem_append_left _ hp)), ho3 (Dt, o) (by tb_start) p hp⟩
          rcases List.mem_append.mp hp with hp | hp
          · exact ⟨.tail _ (.tail _ (List.mem_append_right _ (List.mem_append_left _ hp))), ho2 (Dt, o) (.head _) p hp⟩
          rcases List.mem_append.mp hp with hp | hp
          · exact ⟨.tail _ (.tail _ (List.mem_append_right _ (List.mem_append_right _ (.tail _ (List.mem_append_left _ hp))))), hpT p hp⟩
          · rw [List.mem_singleton.mp hp]; exact ⟨.tail _ (.tail _ mD), hne.symm⟩
        intro h9 o9 tk9 F9 N9 P9
        obtain ⟨T9, hT9⟩ := (hTR.mono (S' := (hB.objs.size, pairO (1 + (k : Int) * 1) (0 + (r : Int) * 1) tv tv2 0) :: (hA.objs.size, pairO (1 + v1) v0 tk1 tv0 0) :: tl) (by tb_rel)).put (x := 1 + (k : Int) * 1) (y := 0 + (r : Int) * 1) (i := 1 + v1) (j := v0) (ka := hB.objs.size) (b := hA.objs.size) (t := tk1) (u := tv0) (n := 0) (by tb_start)
        have hs9 := storedH_len xs [1 + (k : Int) * 1, 0 + (r : Int) * 1] hB.objs.size (.ref hA.objs.size)
        k_steps
        refine ⟨h9, tk9, _, own ++ ((Dt, o9) :: (((hB.objs.size, pairO (1 + (k : Int) * 1) (0 + (r : Int) * 1) tv tv2 0) :: (hA.objs.size, pairO (1 + v1) v0 tk1 tv0 0) :: tl) ++ [(D, penO i0 (j2 + 1 + 1 + 1) t01 t02 n0)])), rfl, F9, fun p hp => N9 p ?_, ?_, (Dt, o9) :: (((hB.objs.size, pairO (1 + (k : Int) * 1) (0 + (r : Int) * 1) tv tv2 0) :: (hA.objs.size, pairO (1 + v1) v0 tk1 tv0 0) :: tl) ++ [(D, penO i0 (j2 + 1 + 1 + 1) t01 t02 n0)]), rfl, ?_, by ktr_room, Dt, o9, _, T9, _, i0, _, _, _, _, rfl, by ktr_room, by ktr_room, lo, hne, ?_, ?_, a0, by omega, by omega, P9.mono (by tb_rel), hT9, Nat.le_trans hs9 (by omega)⟩
        · revert p hp; tb_rel
        · intro p hp
          rcases List.mem_append.mp hp with hp | hp
          · exact ho3 p (List.mem_append_left _ hp)
          rcases List.mem_cons.mp hp with rfl | hp
          · exact ho3 (Dt, o) (by tb_start)
          rcases List.mem_append.mp hp with hp | hp
          · rcases List.mem_cons.mp hp with rfl | hp
            · exact fun q hq => Nat.ne_of_lt (lB q (.tail _ (List.mem_append_left _ hq)))
            rcases List.mem_cons.mp hp with rfl | hp
            · exact fun q hq => Nat.ne_of_lt (lA q (List.mem_append_left _ hq))
            · exact ho3 p (List.mem_append_right _ (.tail _ (List.mem_append_left _ hp)))
          · rw [List.mem_singleton.mp hp]; exact hoD2
        · intro p hp
          rcases List.mem_cons.mp hp with rfl | hp
          · exact ho2 (Dt, o) (.head _)
          rcases List.mem_append.mp hp with hp | hp
          · rcases List.mem_cons.mp hp with rfl | hp
            · exact fun q hq => Nat.ne_of_lt (lB q (.tail _ (List.mem_append_right _ (List.mem_append_left _ hq))))
            rcases List.mem_cons.mp hp with rfl | hp
            · exact fun q hq => Nat.ne_of_lt (lA q (List.mem_append_right _ (List.mem_append_left _ hq)))
            · exact ho2 p (.tail _ (List.mem_append_left _ hp))
          · rw [List.mem_singleton.mp hp]; exact hoD
        · intro p hp
          rcases List.mem_cons.mp hp with rfl | hp
          · exact Nat.ne_of_gt (lB _ (.tail _ mD))
          rcases List.mem_cons.mp hp with rfl | hp
          · exact Nat.ne_of_gt (lA _ mD)
          · exact hpD p hp
        · intro p hp
          rcases List.mem_cons.mp hp with rfl | hp
          · exact Nat.ne_of_gt (lB _ (.tail _ mDt))
          rcases List.mem_cons.mp hp with rfl | hp
          · exact Nat.ne_of_gt (lA _ mDt)
          · exact hpT p hp
      · rename Fr _ _ _ _ => F8
        rename News _ _ _ _ => N8
        rename_i v1 tv1 i1 t11 t12 n1 h1 tk1 a1 b1 c1 hv1
        refine ⟨h1, _, _, own ++ ((Dt, o) :: (tl ++ [(D, penO i1 (j2 + 1) t11 t12 n1)])), rfl, F8, N8, ?_, (Dt, o) :: (tl ++ [(D, penO i1 (j2 + 1) t11 t12 n1)]), rfl, ?_, by ktr_room, Dt, o, xs, T, tl, i1, _, _, _, _, rfl, by ktr_room, by ktr_room, lo, hne, hpD, hpT, a1, by omega, by omega, hP, hTR, by omega⟩
        · intro p hp
          rcases List.mem_append.mp hp with hp | hp
          · exact ho3 p (List.mem_append_left _ hp)
          rcases List.mem_cons.mp hp with rfl | hp
          · exact ho3 (Dt, o) (by tb_start)
          rcases List.mem_append.mp hp with hp | hp
          · exact ho3 p (List.mem_append_right _ (.tail _ (List.mem_append_left _ hp)))
          · rw [List.mem_singleton.mp hp]; exact hoD2
        · intro p hp
          rcases List.mem_cons.mp hp with rfl | hp
          · exact ho2 (Dt, o) (.head _)
          rcases List.mem_append.mp hp with hp | hp
          · exact ho2 p (.tail _ (List.mem_append_left _ hp))
          · rw [List.mem_singleton.mp hp]; exact hoD
    · rintro m₂ news₂ h2 tk2 ⟨led', rfl, ho2, en, hJ2⟩ F5 N5
      obtain ⟨Dt, o, xs, T, tl, i, j2, t, u, n, rfl, e1, e2, lo, hne, hpD, hpT, hi, hj0, hj2, hP, hTR, hlen⟩ := hJ2
      k_steps
      exact ⟨h2, _, _, _, rfl, F5, N5, ho2, Dt, o, xs, T, tl, i, j2, t, u, n, rfl, e1, e2, lo, hne, hpD, hpT, hi, hj0, by omega, hP, hTR, by omega⟩
  · rintro m₂ news₂ h2 tk2 hJ F5 N5
    obtain ⟨Dt, o, xs, T, tl, i, j1, t, u, n, rfl, e1, e2, lo, hne, hpD, hpT, hi, hj0, hj1, hP, hTR, hlen⟩ := hJ
    k_steps
    show Q _ _
    have fresh : ∀ (p : Addr × Obj), p.1 ≠ D → g'.get? p.1 = none → s.heap.get? p.1 = none := fun p h1 h2 => by
      cases q : s.heap.get? p.1 with
      | none => rfl
      | some o => rw [G' _ o q (by simpa using h1)] at h2; cases h2
    refine ret Dt T i j1 t u n ((Dt, o) :: tl) h2 _ (fun b o hb e => F5.keep b o (G' b o e (by simpa using hb))) (N5.get (by tb_start)) hi hj0 (by omega) ?_ ⟨lo, o, xs, .head _, hP.mono (by tb_rel), hTR.mono (by tb_rel)⟩ (hTR.nodup hP.2.choose_spec.choose_spec.2.2.1) (by have := hTR.length; omega)
    intro p hp
    have hp2 : p ∈ (Dt, o) :: (tl ++ [(D, penO i j1 t u n)]) := by
      rcases List.mem_cons.mp hp with rfl | hp
      · exact .head _
      · exact .tail _ (List.mem_append_left _ hp)
    refine ⟨(N5 p hp2).1, fresh p ?_ (N5 p hp2).2.2⟩
    rcases List.mem_cons.mp hp with rfl | hp
    · exact hne
    · exact hpD p hp
end
local macro_rules | `(tactic| ktr_units) => `(tactic| first | assumption | exact List.forall_mem_nil _ | (refine List.forall_mem_append.mpr ⟨?_, ?_⟩ <;> ktr_units) | (refine List.forall_mem_cons.mpr ⟨?_, ?_⟩ <;> ktr_units) | (refine neN ?_; (try dsimp only); omega) | exact Off.ne1 (by assumption) (by tb_start) | exact Off.ne2 (by assumption) (by tb_start) | exact Off.ne0 (by assumption) (by tb_start))
section
-- K14
theorem obj_end {h g h2 : Heap} {L D : Addr} {m : Str → Option Value} {news tl : Led} {i j i' j' : Int} {t u t' u' : Tok} {k k' : Nat} (G : ∀ b o, h.get? b = some o → b ∉ [(D, penO i j t u k)].map (·.1) → g.get? b = some o)
    (F : Fr g L h2 m) (N : News g L h2 news) (sp : Spl [(D, penO i' j' t' u' k')] news tl) (off : ∀ p ∈ tl, p.1 ≠ D) :
    (∀ b o, b ≠ D → h.get? b = some o → h2.get? b = some o) ∧ h2.get? D = some (penO i' j' t' u' k') ∧ ∀ p ∈ tl, h2.get? p.1 = some p.2 ∧ h.get? p.1 = none := by
  refine ⟨fun b o hb e => F.keep b o (G b o e (by simpa using hb)), N.get (sp.mem (List.mem_singleton.mpr rfl)), fun p hp => ?_⟩
  have hpn : p ∈ news := by rw [sp.eq]; exact List.mem_append_left _ hp
  refine ⟨(N p hpn).1, ?_⟩
  cases q : h.get? p.1 with
  | none => rfl
  | some o => have := (N p hpn).2.2; rw [G _ o q (by simpa using off p hp)] at this; cases this

def PenElt (s₃ : Shared) (g₃ : Heap) (C : Addr) (cs tl : Led) (D : Addr) (j' c : Int) (R : Value → Led → Prop) (y : Value) (s₅ : Shared) : Prop :=
  ∃ h' tk tl' m' i2 j2 t2 u2 k2, s₅ = { s₃ with heap := h', toks := tk } ∧ Fr g₃ C h' m' ∧ News g₃ C h' (tl' ++ (tl ++ (cs ++ [(D, penO i2 j2 t2 u2 k2)]))) ∧ (∀ p ∈ tl', p.1 ≠ D) ∧ 0 ≤ i2 ∧ 0 ≤ j2 ∧ j2 ≤ j' + c ∧ R y (tl' ++ tl)
theorem PenElt.mk {s₃ : Shared} {g₃ : Heap} {C : Addr} {cs tl tl' : Led} {D : Addr} {j' c : Int} {R : Value → Led → Prop} {y : Value} {s₅ : Shared} {h' tk m' i2 j2 t2 u2 k2} (e : s₅ = { s₃ with heap := h', toks := tk }) (F : Fr g₃ C h' m') (N : News g₃ C h' (tl' ++ (tl ++ (cs ++ [(D, penO i2 j2 t2 u2 k2)])))) (hp : ∀ p ∈ tl', p.1 ≠ D) (a : 0 ≤ i2) (b : 0 ≤ j2) (d : j2 ≤ j' + c) (r : R y (tl' ++ tl)) : PenElt s₃ g₃ C cs tl D j' c R y s₅ :=
  ⟨h', tk, tl', m', i2, j2, t2, u2, k2, e, F, N, hp, a, b, d, r⟩

section
variable {prog : Program} {w : World} {A : Around} {E : Value → Shared → Prop} {s : Shared} {env : Env} {g : Heap} {m : Str → Option Value}
/-- a comprehension whose element draws -/
theorem compPen {scope : Scope} {cl : List (Str × Addr)} {x : Str} {elt : Expr} {mm : Addr → Str → Option Value} {xv : Value} {K : Addr → Heap → Nat → Prop} {n : Nat} {P : Nat → Value → Prop} {cs : Led} {D : Addr} {i0 j0 c : Int} {t0 u0 : Tok} {k0 : Nat} (R : Nat → List Value → Led → Prop)
    (hsrc : Src prog w A xv [] n P s) (hsz : n ≤ sizeLine) (X : Foot w g) (F : Fr g env.locals s.heap m) (N : News g env.locals s.heap (cs ++ [(D, penO i0 j0 t0 u0 k0)])) (hi : 0 ≤ i0) (hj : 0 ≤ j0) (hR : R 0 [] [])
    (turn : ∀ C i v ys tl s₃ m₃ g₃ E' i' j' t u k, i < n → P i v → R i ys tl → (∀ p ∈ tl, p.1 ≠ D) → 0 ≤ i' → 0 ≤ j' → j' ≤ j0 + c * (i : Int) → Foot w g₃ → Fr g₃ C s₃.heap m₃ → News g₃ C s₃.heap (tl ++ (cs ++ [(D, penO i' j' t u k)])) → m₃ x = some v →
      wpAny (model prog w) A (eval elt (compEnvC scope cl C env)) (PenElt s₃ g₃ C cs tl D j' c (fun y l => R (i + 1) (ys ++ [y]) l)) E' s₃)
    (fin : ∀ D' h' tk ys tl e i' j' t u k, Fr g env.locals h' (mm D') → News g env.locals h' ((D', listOf (List.toArray ys) e) :: (tl ++ (cs ++ [(D, penO i' j' t u k)]))) → (∀ p ∈ tl, p.1 ≠ D) → D' ≠ D → 0 ≤ i' → 0 ≤ j' → j' ≤ j0 + c * (n : Int) → R n ys tl → ys.length ≤ n → K D' h' tk) :
    CompK prog w A env scope cl x [] elt g m mm xv s K := by
  refine ⟨[], [], n, P, fun i ys led => ∃ tl i' j' t u k, led = tl ++ (cs ++ [(D, penO i' j' t u k)]) ∧ (∀ p ∈ tl, p.1 ≠ D) ∧ 0 ≤ i' ∧ 0 ≤ j' ∧ j' ≤ j0 + c * (i : Int) ∧ R i ys tl, _, hsrc, hsz, X, F, N, (fun _ h => nomatch h), (fun _ _ _ _ _ h => nomatch h), ⟨[], i0, j0, t0, u0, k0, rfl, (fun _ h => nomatch h), hi, hj, by simp, hR⟩, ?_, ?_⟩
  · rintro C i v ys led s₃ m₃ g₃ E' hi' hP ⟨tl, i', j', t, u, k, rfl, hp, a, b, d, r⟩ X₃ F₃ N₃ hm
    refine wpAny_tests_nil ⟨⟨_, rfl⟩, fun _ => ?_, fun e => nomatch e⟩
    refine wpAny_mono (turn C i v ys tl s₃ m₃ g₃ E' i' j' t u k hi' hP r hp a b d X₃ F₃ N₃ hm) (fun y s₅ h₅ => ?_) fun _ _ e => e
    obtain ⟨h', tk, tl', m', i2, j2, t2, u2, k2, rfl, F', N', hp', a', b', d', r'⟩ := h₅
    refine ⟨h', tk, _, m', rfl, F', N', tl' ++ tl, i2, j2, t2, u2, k2, (List.append_assoc ..).symm, fun p hp2 => ?_, a', b', ?_, r'⟩
    · rcases List.mem_append.mp hp2 with h | h
      · exact hp' p h
      · exact hp p h
    · have e1 : c * ((i + 1 : Nat) : Int) = c * (i : Int) + c := by push_cast; rw [Int.mul_add, Int.mul_one]
      rw [e1]; omega
  · rintro D' h' tk ys led e F' N' hD hD₁ hdom ⟨tl, i', j', t, u, k, rfl, hp, a, b, d, r⟩ hy
    refine fin D' h' tk ys tl e i' j' t u k F' N' hp (fun q => hD (D, penO i' j' t u k) (List.mem_append_right _ (List.mem_append_right _ (.head _))) q.symm) a b d r hy
end

theorem range_small {v : Int} (h0 : 0 ≤ v) (h1 : v ≤ 3) : Builtin.Range.small 0 v 1 = true ∧ Builtin.Range.rangeSize 0 v 1 = ((v.toNat : Nat) : Int) := by
  have h : v = 0 ∨ v = 1 ∨ v = 2 ∨ v = 3 := by omega
  rcases h with rfl | rfl | rfl | rfl <;> exact ⟨by decide, by decide⟩

def costN : Nat → Nat
  | 0 => 8
  | n + 1 => 11 + 3 * costN n
def sizeN : Nat → Nat
  | 0 => 1
  | n + 1 => 1 + 3 * sizeN n

def ObjAt (w : World) (n : Nat) : Prop := ∀ {dp un : Nat} {fr : Option (List Env)} {gd : Option (List Code)} {s : Shared} {D : Addr} {i j : Int} {t u td : Tok} {k : Nat} {Q E : Value → Shared → Prop},
    Foot w (hideAll s.heap ([(D, penO i j t u k)].map (·.1))) → s.heap.get? D = some (penO i j t u k) → 0 ≤ i → 0 ≤ j → j + (costN n : Int) ≤ 90000 → dp + 4 * n + 20 < recursionLimit → un + 40 * n + 300 < cLine →
    (∀ r x i' j' t1 t2 k' tl h' tk, (∀ b o, b ≠ D → s.heap.get? b = some o → h'.get? b = some o) → h'.get? D = some (penO i' j' t1 t2 k') → 0 ≤ i' → 0 ≤ j' → j' ≤ j + (costN n : Int) → (∀ p ∈ tl, h'.get? p.1 = some p.2 ∧ s.heap.get? p.1 = none) → TrIn w tl r x → ht x ≤ 2 * n → szT x ≤ sizeN n → Q r { s with heap := h', toks := tk }) →
    wpAny (model PySem.Challenge.rw_og0158_01.row.prog w) (ar dp un fr gd) (call (.ref 308) [.ref D, .int (n : Int) td]) Q E s

theorem intsSnoc {vs : List Value} {ns : List Int} {n : Int} {t : Tok} (h : IntsAre vs ns) : IntsAre (vs ++ [.int n t]) (ns ++ [n]) := IntsAre.append h (.cons n t .nil)
def KvsOk (w : World) (tl : Led) (a b : Nat) (kvs : List (Str × Value)) : Prop := ∀ p ∈ kvs, ∃ x, TrIn w tl p.2 x ∧ ht x ≤ a ∧ szT x ≤ b
def VsOk (w : World) (tl : Led) (a b : Nat) (vs : List Value) : Prop := ∀ v ∈ vs, ∃ x, TrIn w tl v x ∧ ht x ≤ a ∧ szT x ≤ b
theorem VsOk.all {w : World} {tl : Led} {a b : Nat} : ∀ {vs : List Value}, VsOk w tl a b vs → ∃ xs, TrAll w tl vs xs ∧ htL xs ≤ a ∧ szL xs ≤ vs.length * b
  | [], _ => ⟨[], .nil, by simp [htL], by simp [szL]⟩
  | v :: vs, h => by
    obtain ⟨x, hx, h1, h2⟩ := h v (.head _)
    obtain ⟨xs, hxs, h3, h4⟩ := VsOk.all (vs := vs) (fun v hv => h v (.tail _ hv))
    refine ⟨x :: xs, .cons hx hxs, ?_, ?_⟩
    · simp only [htL]; omega
    · simp only [szL, List.length_cons, Nat.add_mul]; omega
theorem VsOk.mono {w : World} {tl tl' : Led} {a b : Nat} {vs : List Value} (h : VsOk w tl a b vs) (k : ∀ p ∈ tl, p ∈ tl') : VsOk w tl' a b vs := fun v hv => by
  obtain ⟨x, hx, r⟩ := h v hv
  exact ⟨x, hx.mono k, r⟩
theorem VsOk.snoc {w : World} {tl : Led} {a b : Nat} {vs : List Value} {v : Value} {x : Tr} (h : VsOk w tl a b vs) (hx : TrIn w tl v x) (h1 : ht x ≤ a) (h2 : szT x ≤ b) : VsOk w tl a b (vs ++ [v]) := fun y hy => by
  rcases List.mem_append.mp hy with hy | hy
  · exact h y hy
  · rw [List.mem_singleton.mp hy]; exact ⟨x, hx, h1, h2⟩
theorem KvsOk.mono {w : World} {tl tl' : Led} {a b : Nat} {vs : List (Str × Value)} (h : KvsOk w tl a b vs) (k : ∀ p ∈ tl, p ∈ tl') : KvsOk w tl' a b vs := fun v hv => by
  obtain ⟨x, hx, r⟩ := h v hv
  exact ⟨x, hx.mono k, r⟩
theorem KvsOk.put {w : World} {tl : Led} {a b : Nat} {kvs : List (Str × Value)} {k : Str} {v : Value} {x : Tr} (h : KvsOk w tl a b kvs) (hx : TrIn w tl v x) (h1 : ht x ≤ a) (h2 : szT x ≤ b) : KvsOk w tl a b (stored kvs k v) := fun y hy => by
  unfold stored at hy
  split at hy
  · obtain ⟨q, hq, rfl⟩ := List.mem_map.mp hy
    split
    · exact ⟨x, hx, h1, h2⟩
    · exact h q hq
  · rcases List.mem_append.mp hy with hy | hy
    · exact h y hy
    · rw [List.mem_singleton.mp hy]; exact ⟨x, hx, h1, h2⟩
theorem KvsOk.all {w : World} {tl : Led} {a b : Nat} {kvs : List (Str × Value)} (h : KvsOk w tl a b kvs) : ∃ xs, TrAll w tl (kvs.map (·.2)) xs ∧ htL xs ≤ a ∧ szL xs ≤ kvs.length * b := by
  have h' : VsOk w tl a b (kvs.map (·.2)) := fun v hv => by
    obtain ⟨p, hp, rfl⟩ := List.mem_map.mp hv
    exact h p hp
  obtain ⟨xs, h1, h2, h3⟩ := h'.all
  exact ⟨xs, h1, h2, by simpa using h3⟩

theorem pick3 {x0 x1 x2 : Str} {t0 t1 t2 : Tok} {v : Int} (h0 : 0 ≤ v) (h3 : v < 3) : ∃ j k t, seqIndex? v ([.str x0 t0, .str x1 t1, .str x2 t2] : List Value).length = some j ∧ ([.str x0 t0, .str x1 t1, .str x2 t2] : List Value)[j]? = some (.str k t) := by
  have h : v = 0 ∨ v = 1 ∨ v = 2 := by omega
  rcases h with rfl | rfl | rfl
  · exact ⟨0, x0, t0, rfl, rfl⟩
  · exact ⟨1, x1, t1, rfl, rfl⟩
  · exact ⟨2, x2, t2, rfl, rfl⟩
theorem stored_len (kvs : List (Str × Value)) (k : Str) (v : Value) : (stored kvs k v).length ≤ kvs.length + 1 := by
  unfold stored
  split
  · simp
  · simp
theorem mul_small (c : Nat) {v : Int} (h : v < 4) : (c : Int) * ((v.toNat : Nat) : Int) ≤ (c : Int) * 3 := Int.mul_le_mul_of_nonneg_left (by omega) (by omega)
/-- between the turns of the dict's loop -/
def DictInv (w : World) (D : Addr) (c1 c2 : Addr × Obj) (jm : Int) (a b c : Nat) (m : Str → Option Value) (news : Led) : Prop :=
  ∃ Dh o kvs tl i j t u k vw tw, news = (Dh, o) :: (tl ++ [c1, c2, (D, penO i j t u k)]) ∧ m (Str.ofString "head") = some (.ref Dh) ∧ m (Str.ofString "way") = some (.int vw tw) ∧ (Dh == sysModules) = false ∧ Dh ≠ D ∧ c1.1 ≠ Dh ∧ c2.1 ≠ Dh ∧ (∀ p ∈ tl, p.1 ≠ D) ∧ (∀ p ∈ tl, p.1 ≠ Dh) ∧
    0 ≤ i ∧ 0 ≤ j ∧ j ≤ jm ∧ o.IsDictOf (sK w) kvs ∧ KvsOk w tl a b kvs ∧ kvs.length ≤ c

section
variable {prog : Program} {w : World} {A : Around} {E : Value → Shared → Prop} {s : Shared} {g : Heap} {L d : Addr} {m : Str → Option Value} {news : Led} {o : Obj} {kvs : List (Str × Value)}
theorem set_keep {v : Value} {keep : Led} {k : Str} {t : Tok} {Q : Unit → Shared → Prop} (F : Fr g L s.heap m) (N : News g L s.heap news) (hd : (d, o) ∈ news) (P : o.IsDictOf (PySem.strKind prog w) kvs) (hkeep : ∀ p ∈ keep, p ∈ news ∧ p.1 ≠ d) (hsz : kvs.length ≤ sizeLine)
    (h : ∀ h' o' tk, Fr g L h' m → News g L h' ((d, o') :: keep) → o'.IsDictOf (PySem.strKind prog w) (stored kvs k v) → Q () { s with heap := h', toks := tk }) :
    wpAny (model prog w) A (setItem (.ref d) (.str k t) v) Q E s := by
  refine wpAny_setItem_pairs (hsz := hsz) (knd := PySem.strKind prog w) (k := k) (by simp [PySem.strKind, Value.isStrOf]) (kda_dict N hd P) fun h' hm' hs => ?_
  obtain ⟨o', ho', hd'⟩ := Heap.dictOf_iff.mp hm'
  refine h h' o' _ (F.change hs (N _ hd).2.1 (N.fresh hd)) (fun p hp => ?_) hd'
  rcases List.mem_cons.mp hp with rfl | hp
  · exact ⟨ho', (N _ hd).2.1, (N _ hd).2.2⟩
  · exact ⟨(hs.2 _ (hkeep p hp).2).trans (N p (hkeep p hp).1).1, (N p (hkeep p hp).1).2⟩
end

section
variable {w : World} {dp un : Nat} {fr : Option (List Env)} {gd : Option (List Code)} {s : Shared} {E : Value → Shared → Prop} {Q : Value → Shared → Prop} {g : Heap} {L D : Addr} {m : Str → Option Value} {news tl : Led}
theorem obj_K {mean : ExcName → Option Value} {mg mb : Str → Option Value} {nn : Nat} {i j dv : Int} {t u td : Tok} {k : Nat} (ih : ObjAt w nn) (F : Fr g L s.heap m) (N : News g L s.heap news) (X : (hd.heap_1 w.params).In g) (T : Top hdV (looseW hdV [Str.ofString "PaperError"]) mean mg mb g)
    (sp : Spl [(D, penO i j t u k)] news tl) (off : ∀ p ∈ tl, p.1 ≠ D) (hdv : dv = (nn : Int)) (hi : 0 ≤ i) (hj : 0 ≤ j) (hj2 : j + (costN nn : Int) ≤ 90000) (hd1 : dp + 4 * nn + 20 < recursionLimit) (hu : un + 40 * nn + 300 < cLine)
    (ret : ∀ r x i' j' t1 t2 k' tl' h' tk, Fr g L h' m → News g L h' (tl' ++ (tl ++ [(D, penO i' j' t1 t2 k')])) → (∀ p ∈ tl', p.1 ≠ D) → (∀ q ∈ tl', ∀ p ∈ news, p.1 ≠ q.1) → 0 ≤ i' → 0 ≤ j' → j' ≤ j + (costN nn : Int) → TrIn w tl' r x → ht x ≤ 2 * nn → szT x ≤ sizeN nn → Q r { s with heap := h', toks := tk }) :
    wpAny (model PySem.Challenge.rw_og0158_01.row.prog w) (ar dp un fr gd) (call (.ref 308) [.ref D, .int dv td]) Q E s := by
  subst hdv
  have hD := sp.mem (List.mem_singleton.mpr rfl)
  refine ih (foot_of ⟨X, _, _, _, T⟩ F N fun p hp => by rw [List.mem_singleton.mp hp]; exact hD) (N.get hD) hi hj hj2 hd1 hu fun r x i' j' t1 t2 k' tl' h' tk kp ho a b c hn d e f => ?_
  have hfar : ∀ q ∈ tl', ∀ p ∈ news, p.1 ≠ q.1 := fun q hq p hp he => by
    have := (hn q hq).2
    rw [← he, (N p hp).1] at this; cases this
  refine ret r x i' j' t1 t2 k' tl' h' tk (keep_but F N hD kp) (fun p hp => ?_) (fun q hq => (hfar q hq _ hD).symm) hfar a b c d e f
  rcases List.mem_append.mp hp with hp | hp
  · refine ⟨(hn p hp).1, fun e => ?_, ?_⟩
    · obtain ⟨_, _, _, ho, _⟩ := F.ns
      have := (hn p hp).2
      rw [e, ho] at this; cases this
    · cases q : g.get? p.1 with
      | none => rfl
      | some o => have := (hn p hp).2; rw [F.keep _ _ q] at this; cases this
  rcases List.mem_append.mp hp with hp | hp
  · have hpn : p ∈ news := by rw [sp.eq]; exact List.mem_append_left _ hp
    exact ⟨kp _ _ (off p hp) (N p hpn).1, (N p hpn).2⟩
  · rw [List.mem_singleton.mp hp]; exact ⟨ho, (N _ hD).2⟩
end

local macro_rules | `(tactic| walk_at "call type:bytes") => `(tactic| (k_here; (with_reducible show wpAny _ _ (call (Value.type "bytes") [Value.ref _]) _ _ _); k_dflt (refine KBa.make_K (by k_asm) (by k_asm) rfl (News.isList (by k_asm) (by k_mem)) (by assumption) (by assumption) (by assumption) ?_); intro _ _ _ F' N' _; k_sweep))
local macro_rules | `(tactic| walk_at "call ref") => `(tactic| (k_here; k_dflt (show wpAny _ _ (call (Value.ref 308) [Value.ref _, Value.int _ _]) _ _ _); k_dflt (refine obj_K (by assumption) (by assumption) (by assumption) (by assumption) (by assumption) (by ktr_unf) (by ktr_units) (by (try dsimp only); omega) (by omega) (by omega) (by omega) (by dsimp only; omega) (by dsimp only; omega) ?_); intro r' x' i' j' t1' t2' n' tl' h' tk' F' N' hp' hf' a' b' c' d' e' f'; (simp only [List.cons_append, List.nil_append, List.append_assoc] at N'); k_sweep))
theorem cost8 (n : Nat) : (8 : Int) ≤ (costN n : Int) := by
  induction n with
  | zero => exact Int.le_refl _
  | succ n ih => simp only [costN]; omega
theorem size1 : ∀ n : Nat, 1 ≤ sizeN n
  | 0 => Nat.le_refl _
  | n + 1 => Nat.le_add_right _ _
def HZ (n : Nat) (many : Int) : Prop := n = 0 → many = 7
theorem join_int {M : Model} {A : Around} {t : Sem Value} {Q E : Value → Shared → Prop} {s : Shared} {P : Int → Prop} (h : wpAny M A t (fun v s' => ∃ i tk tk', v = .int i tk ∧ s' = { s with toks := tk' } ∧ P i) E s) (k : ∀ i tk tk', P i → Q (.int i tk) { s with toks := tk' }) : wpAny M A t Q E s :=
  wpAny_mono h (fun v s' ⟨i, tk, tk', e1, e2, p⟩ => by subst e1; subst e2; exact k i tk tk' p) fun _ _ e => e
theorem item_pick {prog : Program} {w : World} {A : Around} {E : Value → Shared → Prop} {s : Shared} {g : Heap} {L t : Addr} {news : Led} {value slice : Expr} {l : List Value} {v : Int} {u : Tok} {n : Nat} {Q : Value → Shared → Prop} (N : News g L s.heap news) (hm : (t, tupO l n) ∈ news) (hl : ∀ x ∈ l, ∃ k t, x = .str k t) (h0 : 0 ≤ v) (h3 : v < (l.length : Int)) (h64 : l.length ≤ 64)
    (h : ∀ k t, Q (.str k t) s) (hs : subscripted slice false (.ref t) (.int v u) = operate [.ref t, .int v u] (getItem (.ref t) (.int v u)) := by with_unfolding_all rfl) : wpAny (model prog w) A (subscriptTail value slice (.ref t) (.int v u)) Q E s := by
  have hlt : v.toNat < l.length := by omega
  obtain ⟨k, tk, e⟩ := hl _ (List.getElem_mem hlt)
  refine item_tupleT (l := l) (j := v.toNat) (x := l[v.toNat]) ⟨_, N.get hm, rfl, n, rfl⟩ (by omega) (by omega) ?_ (List.getElem?_eq_getElem hlt) (by rw [e]; exact h k tk) hs
  have e1 : ¬ v < 0 := by omega
  simp only [seqIndex?, e1, if_false]
  rw [if_pos (by simp [h0, h3])]
local macro_rules | `(tactic| walk_at "subscriptTail") => `(tactic| (k_here; (with_reducible show wpAny _ _ (subscriptTail _ _ (Value.ref _) (Value.int _ _)) _ _ _); refine Halt.go ?_))
local macro_rules | `(tactic| walk_at "eval IfExp") => `(tactic| (k_here; (with_reducible show wpAny _ _ (eval (PySem.Expr.IfExp (PySem.Expr.Compare (PySem.Expr.Name (Str.ofString "deep") _) _ _ _) _ _ _) _) _ _ _); refine Halt.go ?_))
theorem obj_step {w : World} (n : Nat) (ih : ∀ k, n = k + 1 → ObjAt w k) : ObjAt w n := by
  intro dp un fr gd s D i j t u td k Q E X hD hi hj hj2 hd hu ret
  have hcl := cLine_is
  have hc8 := cost8 n
  have hs1 := size1 n
  refine wpAny_call ?_
  k_dflt (refine' enterC (binds := [(Str.ofString "pen", .ref D), (Str.ofString "deep", .int ((n : Nat) : Int) td)]) [(D, penO i j t u k)] X ?km ?k6 ?k7 ?k8 ?k9 ?kB ?kD ?_ ?c2 ?c3 ?c4; (case km => exact fun p hp => by rw [List.mem_singleton.mp hp]; exact hD); (case k6 => k_is); (case k7 => k_is); (case k8 => (dsimp only; omega)); (case k9 => exact BindsTo.of_eq rfl); (case kB => exact rfl); (case kD => decide +kernel); (case c2 => exact rfl); (case c3 => exact rfl); (case c4 => exact rfl); k_whole)
  intro g' L' h' tk' cells' G' F' N' Y' l1 X' T'
  obtain ⟨mean, mg, mb, T'⟩ := T'
  obtain ⟨o1, o2, hE, d1, d2⟩ := CellsAre.two Y'
  subst hE
  (try simp only [List.cons_append, List.nil_append] at N')
  have hDL : @LT.lt Nat _ D L' := l1 _ (.head _)
  k_unmd
  k_fold
  k_steps
  refine Halt.mk (join_int (P := fun many => many = 11 ∧ 0 < n ∨ many = 7 ∧ n = 0) ?_ ?_)
  · refine wpAny_IfExp ?_
    k_steps
    · exact .inl ⟨rfl, by omega⟩
    · exact .inr ⟨rfl, by omega⟩
  intro many tm tk9 hmany
  have hm1 : 0 < many := by rcases hmany with h | h <;> omega
  have hm2 : many ≤ 11 := by rcases hmany with h | h <;> omega
  have hmz : HZ n many := fun h => by rcases hmany with h | h <;> omega
  clear hmany
  have hb0 : j ≤ 100000 := by omega
  have hb1 : j + 1 ≤ 100000 := by omega
  have hb2 : j + 1 + 1 ≤ 100000 := by omega
  have hb3 : j + 1 + 1 + 1 ≤ 100000 := by omega
  have hn1 : 0 ≤ j + 1 := by omega
  have hn2 : 0 ≤ j + 1 + 1 := by omega
  have hn3 : 0 ≤ j + 1 + 1 + 1 := by omega
  have hm3 : many ≤ 100 := by omega
  have hdp : dp + 1 + 10 < recursionLimit := by omega
  have hup : un + 3 + 200 < cLine := by omega
  have hc1 : j + 1 ≤ j + (costN n : Int) := by omega
  have hc2 : j + 1 + 1 ≤ j + (costN n : Int) := by omega
  have hc3 : j + 1 + 1 + 1 ≤ j + (costN n : Int) := by omega
  k_steps
  · (repeat (rename @Ne Int _ _ => hz9; clear hz9))
    (try show Q _ _)
    rename Fr _ _ _ _ => F2
    rename News _ _ _ _ => N2
    obtain ⟨a, b, c⟩ := obj_end G' F2 N2 (by ktr_unf) (by ktr_units)
    exact ret _ .none _ _ _ _ _ _ _ _ a b (by assumption) (by first | assumption | omega) (by first | assumption | omega) c .none (by simp [ht]) (by simp only [szT]; exact hs1)
  · (repeat (rename @Ne Int _ _ => hz9; clear hz9))
    (try show Q _ _)
    rename Fr _ _ _ _ => F2
    rename News _ _ _ _ => N2
    obtain ⟨a, b, c⟩ := obj_end G' F2 N2 (by ktr_unf) (by ktr_units)
    exact ret _ (.bool _) _ _ _ _ _ _ _ _ a b (by assumption) (by first | assumption | omega) (by first | assumption | omega) c (.bool _) (by simp [ht]) (by simp only [szT]; exact hs1)
  · (repeat (rename @Ne Int _ _ => hz9; clear hz9))
    (try show Q _ _)
    rename Fr _ _ _ _ => F2
    rename News _ _ _ _ => N2
    obtain ⟨a, b, c⟩ := obj_end G' F2 N2 (by ktr_unf) (by ktr_units)
    exact ret _ (.int _) _ _ _ _ _ _ _ _ a b (by assumption) (by first | assumption | omega) (by first | assumption | omega) c (.int _ _) (by simp [ht]) (by simp only [szT]; exact hs1)
  · (repeat (rename @Ne Int _ _ => hz9; clear hz9))
    (try show Q _ _)
    rename Fr _ _ _ _ => F2
    rename News _ _ _ _ => N2
    rename ∃ _, _ => D3
    obtain ⟨a, b, c⟩ := obj_end G' F2 N2 (by ktr_unf) (by ktr_units)
    obtain ⟨i9, j9, h1', h2', t1', t2', n', t3', u3', rfl⟩ := D3
    exact ret _ (.dec i9 j9) _ _ _ _ _ _ _ _ a b (by assumption) (by first | assumption | omega) (by first | assumption | omega) c (.dec (.head _) (.tail _ (.head _))) (by simp [ht]) (by simp only [szT]; exact hs1)
  · rename News _ _ _ _ => N2
    refine Halt.mk (item_pick N2 (.head _) (fun x hx => ?_) (by assumption) (by simp only [List.length_cons, List.length_nil]; omega) (by simp) (fun k9 t9 => ?_) (by with_unfolding_all rfl))
    · simp only [List.mem_cons, List.not_mem_nil, or_false] at hx
      rcases hx with rfl | rfl | rfl | rfl <;> exact ⟨_, _, rfl⟩
    k_steps
    (repeat (rename @Ne Int _ _ => hz9; clear hz9))
    (try show Q _ _)
    rename Fr _ _ _ _ => F2
    rename News _ _ _ _ => N2
    rename ∃ _, _ => D3
    obtain ⟨a, b, c⟩ := obj_end G' F2 N2 (by ktr_unf) (by ktr_units)
    obtain ⟨h1', t1', n', t3', rfl⟩ := D3
    exact ret _ (.name _) _ _ _ _ _ _ _ _ a b (by assumption) (by first | assumption | omega) (by first | assumption | omega) c (.name (.head _) (.tail _ (.head _))) (by simp [ht]) (by simp only [szT]; exact hs1)
  · (repeat (rename @Ne Int _ _ => hz9; clear hz9))
    rename IsRange _ _ _ _ _ _ _ _ => hR9
    rename Fr _ _ _ _ => F2
    rename News _ _ _ _ => N2
    obtain ⟨rs1, rs2⟩ := range_small (by assumption) (by omega)
    refine compPen (c := 1) (cs := [(L' + 1 + 1, o1), (L' + 1, o2)]) (fun i ys tl => tl = [] ∧ ∃ ns : List Int, IntsAre ys ns ∧ ∀ n ∈ ns, 0 ≤ n ∧ n < 3) (src_range rfl hR9 rs1 rs2) ?_ ⟨X', _, _, _, T'⟩ F2 N2 (by assumption) (by omega) ⟨rfl, [], .nil, fun _ h => nomatch h⟩ ?_ ?_
    · rw [sizeLine_eq]; omega
    · rintro C i v ys tl s₃ m₃ g₃ E' i' j' t u k hlt hP ⟨rfl, ns, hns, hn3⟩ hp9 a9 b9 c9 X₃ F₃ N₃ hm₃
      obtain ⟨K₃, mean₃, mg₃, mb₃, T₃⟩ := X₃
      have hlt2 : (i : Int) < 3 := by omega
      simp only [List.cons_append, List.nil_append] at N₃
      k_steps
      rename Fr _ _ _ _ => F3
      rename News _ _ _ _ => N3
      refine PenElt.mk (tl' := []) rfl F3 N3 (fun _ h => nomatch h) (by assumption) (by omega) (by omega) ⟨rfl, ns ++ [_], intsSnoc hns, fun n hn => ?_⟩
      rcases List.mem_append.mp hn with h | h
      · exact hn3 n h
      · rw [List.mem_singleton.mp h]; exact ⟨by assumption, by assumption⟩
    · rintro D' h' tk ys tl e i' j' t u k F9 N9 hp9 hD9 a9 b9 c9 ⟨rfl, ns, hns, hn3⟩ hy9
      simp only [List.cons_append, List.nil_append] at N9
      have hIn : KBa.In ns := fun n hn => ⟨(hn3 n hn).1, Int.lt_of_lt_of_le (hn3 n hn).2 (by decide)⟩
      have hln : ns.length ≤ 16777216 := by have := hns.length; omega
      k_steps
      (try show Q _ _)
      rename Fr _ _ _ _ => F2
      rename News _ _ _ _ => N2
      rename ∃ _, _ => D3
      obtain ⟨a, b, c⟩ := obj_end G' F2 N2 (by ktr_unf) (by ktr_units)
      obtain ⟨h1', h2', t1', t2', n', t3', rfl⟩ := D3
      exact ret _ (.string _ _) _ _ _ _ _ _ _ _ a b (by assumption) (by first | assumption | omega) (by first | assumption | omega) c (.string (.head _) (.tail _ (.head _))) (by simp [ht]) (by simp only [szT]; exact hs1)
  · (repeat (rename @Ne Int _ _ => hz9; clear hz9))
    (try show Q _ _)
    rename Fr _ _ _ _ => F2
    rename News _ _ _ _ => N2
    rename ∃ _, _ => D3
    obtain ⟨a, b, c⟩ := obj_end G' F2 N2 (by ktr_unf) (by ktr_units)
    obtain ⟨h1', h2', t1', t2', n', t3', u3', rfl⟩ := D3
    exact ret _ (.ref _ _) _ _ _ _ _ _ _ _ a b (by assumption) (by first | assumption | omega) (by first | assumption | omega) c (.ref (.head _) (.tail _ (.head _))) (by simp [ht]) (by simp only [szT]; exact hs1)
  · obtain ⟨n0, rfl⟩ : ∃ k, n = k + 1 := by
      rcases n with _ | k
      · exfalso; have := hmz rfl; omega
      · exact ⟨k, rfl⟩
    have ih : ObjAt w n0 := ih n0 rfl
    simp only [costN] at hj2 ret
    clear hc8 hs1 hmz hc1 hc2 hc3 hb3 hn3 hm1 hm2 hm3
    (repeat (rename @Ne Int _ _ => hz9; clear hz9))
    rename IsRange _ _ _ _ _ _ _ _ => hR9
    rename Fr _ _ _ _ => F2
    rename News _ _ _ _ => N2
    obtain ⟨rs1, rs2⟩ := range_small (by assumption) (by omega)
    refine compPen (c := (costN n0 : Int)) (cs := [(L' + 1 + 1, o1), (L' + 1, o2)]) (fun i ys tl => VsOk w tl (2 * n0) (sizeN n0) ys) (src_range rfl hR9 rs1 rs2) ?_ ⟨X', _, _, _, T'⟩ F2 N2 (by assumption) (by omega) (fun _ h => nomatch h) ?_ ?_
    · rw [sizeLine_eq]; omega
    · rintro C i v ys tl s₃ m₃ g₃ E' i' j' t u k hlt hP hV hp9 a9 b9 c9 X₃ F₃ N₃ hm₃
      obtain ⟨K₃, mean₃, mg₃, mb₃, T₃⟩ := X₃
      have hlt2 : (i : Int) ≤ 2 := by omega
      have hm2 : (costN n0 : Int) * (i : Int) ≤ (costN n0 : Int) * 2 := Int.mul_le_mul_of_nonneg_left hlt2 (by omega)
      have hj9 : j' + costN n0 ≤ 90000 := by omega
      clear hm2
      simp only [List.cons_append, List.nil_append] at N₃
      k_steps
      rename Fr _ _ _ _ => F3
      rename News _ _ _ _ => N3
      rename TrIn _ _ _ _ => D3
      refine PenElt.mk rfl F3 N3 (by assumption) (by assumption) (by assumption) (by omega) ?_
      exact (hV.mono (by tb_rel)).snoc (D3.mono (by tb_rel)) (by assumption) (by assumption)
    · rintro D' h' tk ys tl e i' j' t u k F9 N9 hp9 hD9 a9 b9 c9 hV hy9
      simp only [List.cons_append, List.nil_append] at N9
      k_steps
      show Q _ _
      obtain ⟨a, b, c⟩ := obj_end G' F9 N9 (by ktr_unf) (by ktr_units)
      obtain ⟨xs, h1, h2, h3⟩ := hV.all
      have hv3 : ys.length ≤ 3 := by omega
      have hm3 := Nat.mul_le_mul_right (sizeN n0) hv3
      have hm4 := mul_small (costN n0) (by assumption : _ < (4 : Int))
      exact ret _ (.arr xs) _ _ _ _ _ _ _ _ a b a9 b9 (by omega) c (.arr (.head _) (h1.mono (by tb_rel)) (by have := h1.length; omega)) (by simp only [ht]; omega) (by simp only [szT, sizeN]; omega)
  · obtain ⟨n0, rfl⟩ : ∃ k, n = k + 1 := by
      rcases n with _ | k
      · exfalso; have := hmz rfl; omega
      · exact ⟨k, rfl⟩
    have ih : ObjAt w n0 := ih n0 rfl
    simp only [costN] at hj2 ret
    clear hc8 hs1 hmz hc1 hc2 hc3 hb3 hn3 hm1 hm2 hm3
    (repeat (rename @Ne Int _ _ => hz9; clear hz9))
    rename Fr _ _ _ _ => F2
    refine Halt.mk (For_F F2 rfl rfl ?_)
    k_steps
    rename IsRange _ _ _ _ _ _ _ _ => hR9
    rename Obj.IsDictOf (PySem.strKind _ _) _ [] => hE9
    rename (_ == sysModules) = false => lo9
    rename _ ∧ _ ∧ _ => l9
    rename Fr _ _ _ _ => F4
    rename News _ _ _ _ => N4
    obtain ⟨rs1, rs2⟩ := range_small (by assumption) (by omega)
    have hcp : (0 : Int) ≤ costN n0 := by omega
    refine Halt.mk (for_src (fun r m news => DictInv w D (L' + 1 + 1, o1) (L' + 1, o2) (j + 1 + 1 + ((costN n0 : Int) + 1) * r) (2 * n0) (sizeN n0) r m news) [] (src_range rfl hR9 rs1 rs2) F4 N4 (fun _ h => nomatch h) (fun _ _ _ _ _ h => nomatch h)
      ⟨_, _, [], [], _, _, _, _, _, _, _, rfl, by ktr_room, by ktr_room, lo9, Nat.ne_of_gt l9.2.2, Nat.ne_of_lt l9.1, Nat.ne_of_lt l9.2.1, (fun _ h => nomatch h), (fun _ h => nomatch h), by assumption, by omega, by simp, hE9, (fun _ h => nomatch h), Nat.le_refl _⟩ ?_ ?_)
    · rintro r v m₁ news₁ h tk own hlt ⟨tv, rfl⟩ hJ ho F3 N3
      obtain ⟨Dh, o, kvs, tl, i1, j1, t1, u1, k1, vw, tw, rfl, e1, e2, lo, hne, hc1, hc2, hpD, hpH, a9, b9, c9, hE, hK, hlen⟩ := hJ
      have hr2 : (r : Int) ≤ 2 := by omega
      have hm2 : ((costN n0 : Int) + 1) * (r : Int) ≤ ((costN n0 : Int) + 1) * 2 := Int.mul_le_mul_of_nonneg_left hr2 (by omega)
      have hj9 : j1 + costN n0 ≤ 90000 := by omega
      have hm3 : ((costN n0 : Int) + 1) * ((r + 1 : Nat) : Int) = ((costN n0 : Int) + 1) * (r : Int) + (costN n0 + 1) := by push_cast; rw [Int.mul_add, Int.mul_one]
      have hoD : ∀ p ∈ own, p.1 ≠ D := fun p hp => ho (D, penO i1 j1 t1 u1 k1) (by tb_start) p hp
      have hDh : (Dh, o).1 ≠ D := hne
      clear hm2
      k_steps
      rename News _ _ _ (_ ++ (_ ++ _ :: _)) => N6
      have lA := news_lt N6
      have hT : _ ≠ D := Nat.ne_of_gt (lA (D, penO _ _ _ _ _) (by tb_start))
      k_steps
      rename_i rv rx ri rj rt1 rt2 rn rtl rh rtk rhp rhf ra rb rc rd re rf rh1 rhk rnm v7 t7 i7 t17 t27 n7 h7 tk7 F7 a7 b7 c7 N7
      (try dsimp only at N7)
      obtain ⟨j8, k8, t8, hj8, hx8⟩ := pick3 (x0 := Str.ofString "C") (x1 := Str.ofString "A") (x2 := Str.ofString "B") (t0 := rtk) (t1 := rtk + 1) (t2 := rtk + 1 + 1) b7 c7
      refine Halt.mk <| item_tupleT (l := [.str (Str.ofString "C") rtk, .str (Str.ofString "A") (rtk + 1), .str (Str.ofString "B") (rtk + 1 + 1)]) ⟨_, N7.get (.head _), rfl, _, rfl⟩ (by omega) (by omega) hj8 hx8 ?_ (by with_unfolding_all rfl)
      refine set_keep (keep := (rh.objs.size, tupO [.str (Str.ofString "C") rtk, .str (Str.ofString "A") (rtk + 1), .str (Str.ofString "B") (rtk + 1 + 1)]) :: (rtl ++ (own ++ (tl ++ [(L' + 1 + 1, o1), (L' + 1, o2), (D, penO i7 (rj + 1) t17 t27 n7)])))) F7 N7 (by tb_start) hE ?_ (by rw [sizeLine_eq]; omega) ?_
      · intro p hp
        rcases List.mem_cons.mp hp with rfl | hp
        · exact ⟨.head _, Nat.ne_of_gt (lA (Dh, o) (by tb_start))⟩
        rcases List.mem_append.mp hp with hp | hp
        · exact ⟨.tail _ (List.mem_append_left _ hp), (rhf p hp (Dh, o) (by tb_start)).symm⟩
        rcases List.mem_append.mp hp with hp | hp
        · exact ⟨.tail _ (List.mem_append_right _ (List.mem_append_left _ hp)), (ho (Dh, o) (.head _) p hp)⟩
        rcases List.mem_append.mp hp with hp | hp
        · exact ⟨.tail _ (List.mem_append_right _ (List.mem_append_right _ (.tail _ (List.mem_append_left _ hp)))), hpH p hp⟩
        refine ⟨.tail _ (List.mem_append_right _ (List.mem_append_right _ (.tail _ (List.mem_append_right _ hp)))), ?_⟩
        rcases List.mem_cons.mp hp with rfl | hp
        · exact hc1
        rcases List.mem_cons.mp hp with rfl | hp
        · exact hc2
        rw [List.mem_singleton.mp hp]; exact hne.symm
      intro h9 o9 tk9 F9 N9 P9
      have hl9 := stored_len kvs k8 rv
      k_steps
      refine ⟨h9, tk9, _, (Dh, o9) :: (((rh.objs.size, tupO [.str (Str.ofString "C") rtk, .str (Str.ofString "A") (rtk + 1), .str (Str.ofString "B") (rtk + 1 + 1)]) :: (rtl ++ tl)) ++ [(L' + 1 + 1, o1), (L' + 1, o2), (D, penO i7 (rj + 1) t17 t27 n7)]), rfl, F9, fun p hp => N9 p ?_, ?_, Dh, o9, stored kvs k8 rv, (rh.objs.size, tupO [.str (Str.ofString "C") rtk, .str (Str.ofString "A") (rtk + 1), .str (Str.ofString "B") (rtk + 1 + 1)]) :: (rtl ++ tl), i7, rj + 1, _, _, _, vw, tw, rfl, by ktr_room, by ktr_room, lo, hne, hc1, hc2, ?_, ?_, a7, by omega, by omega, P9, (hK.mono (by tb_rel)).put (rd.mono (by tb_rel)) re rf, by omega⟩
      · revert p hp; tb_rel
      · intro p hp q hq
        rcases List.mem_cons.mp hp with rfl | hp
        · exact ho (Dh, o) (.head _) q hq
        rcases List.mem_append.mp hp with hp | hp
        · rcases List.mem_cons.mp hp with rfl | hp
          · exact Nat.ne_of_lt (lA q (List.mem_append_right _ (List.mem_append_left _ hq)))
          rcases List.mem_append.mp hp with hp | hp
          · exact rhf p hp q (List.mem_append_left _ hq)
          · exact ho p (.tail _ (List.mem_append_left _ hp)) q hq
        · rcases List.mem_cons.mp hp with rfl | hp
          · exact ho _ (.tail _ (List.mem_append_right _ (.head _))) q hq
          rcases List.mem_cons.mp hp with rfl | hp
          · exact ho _ (.tail _ (List.mem_append_right _ (.tail _ (.head _)))) q hq
          rw [List.mem_singleton.mp hp]; exact hoD q hq
      · intro p hp
        rcases List.mem_cons.mp hp with rfl | hp
        · exact hT
        rcases List.mem_append.mp hp with hp | hp
        · exact rhp p hp
        · exact hpD p hp
      · intro p hp
        rcases List.mem_cons.mp hp with rfl | hp
        · exact Nat.ne_of_gt (lA (Dh, o) (by tb_start))
        rcases List.mem_append.mp hp with hp | hp
        · exact (rhf p hp (Dh, o) (by tb_start)).symm
        · exact hpH p hp
    · rintro m₂ news₂ h2 tk2 hJ F5 N5
      obtain ⟨Dh, o, kvs, tl, i1, j1, t1, u1, k1, vw, tw, rfl, e1, e2, lo, hne, hc1, hc2, hpD, hpH, a9, b9, c9, hE, hK, hlen⟩ := hJ
      have hm4 := mul_small (costN n0 + 1) (by assumption : _ < (4 : Int))
      push_cast at hm4
      have hj9 : j1 ≤ j + 5 + 3 * costN n0 := by omega
      clear hm4
      have hDh : (Dh, o).1 ≠ D := hne
      obtain ⟨xs, h1, h2', h3⟩ := hK.all
      have hk3 : kvs.length ≤ 3 := by omega
      have hm3 := Nat.mul_le_mul_right (sizeN n0) hk3
      have hx3 : xs.length ≤ 8 := by have := h1.length; rw [List.length_map] at this; omega
      k_steps
      · obtain ⟨a, b, c⟩ := obj_end G' F5 N5 (by ktr_unf) (by ktr_units)
        show Q _ _
        exact ret _ (.dict _ xs) _ _ _ _ _ _ _ _ a b a9 b9 (by omega) c (.dict (.head _) lo hE (h1.mono (by tb_rel)) hx3) (by simp only [ht]; omega) (by simp only [szT, sizeN]; omega)
      · rename IsRange _ _ _ _ _ _ _ _ => hR6
        rename Fr _ _ _ _ => F6
        rename News _ _ _ _ => N6
        refine compPen (c := 1) (cs := (Dh, o) :: (tl ++ [(L' + 1 + 1, o1), (L' + 1, o2)])) (fun i ys tl => tl = [] ∧ ∃ ns : List Int, IntsAre ys ns ∧ ∀ n ∈ ns, 0 ≤ n ∧ n < 3) (src_range (n := 2) rfl hR6 (by decide) (by rfl)) ?_ ⟨X', _, _, _, T'⟩ F6 (fun p hp => N6 p (by simpa using hp)) (by assumption) (by omega) ⟨rfl, [], .nil, fun _ h => nomatch h⟩ ?_ ?_
        · rw [sizeLine_eq]; omega
        · rintro C i v ys tl9 s₃ m₃ g₃ E' i' j' t u k hlt hP ⟨rfl, ns, hns, hn3⟩ hp9 a9 b9 c9 X₃ F₃ N₃ hm₃
          obtain ⟨K₃, mean₃, mg₃, mb₃, T₃⟩ := X₃
          have hlt2 : (i : Int) < 2 := by omega
          simp only [List.cons_append, List.nil_append, List.append_assoc] at N₃
          k_steps
          rename Fr _ _ _ _ => F3
          rename News _ _ _ _ => N3
          refine PenElt.mk (tl' := []) rfl F3 (fun p hp => N3 p (by simpa using hp)) (fun _ h => nomatch h) (by assumption) (by omega) (by omega) ⟨rfl, ns ++ [_], intsSnoc hns, fun n hn => ?_⟩
          rcases List.mem_append.mp hn with h | h
          · exact hn3 n h
          · rw [List.mem_singleton.mp h]; exact ⟨by assumption, by assumption⟩
        · rintro D' h' tk ys tl9 e i' j' t u k F9 N9 hp9 hD9 a9 b9 c9 ⟨rfl, ns, hns, hn3⟩ hy9
          simp only [List.cons_append, List.nil_append, List.append_assoc] at N9
          have hIn : KBa.In ns := fun n hn => ⟨(hn3 n hn).1, Int.lt_of_lt_of_le (hn3 n hn).2 (by decide)⟩
          have hln : ns.length ≤ 16777216 := by have := hns.length; omega
          k_steps
          show Q _ _
          rename Fr _ _ _ _ => F2
          rename News _ _ _ _ => N2
          (try (rename ∃ _, _ => D3))
          obtain ⟨a, b, c⟩ := obj_end G' F2 N2 (by ktr_unf) (by ktr_units)
          obtain ⟨h1', h2', t1', t2', n', t3', rfl⟩ := D3
          exact ret _ (.stream _ xs _) _ _ _ _ _ _ _ _ a b a9 b9 (by omega) c (.stream (.head _) (.tail _ (.head _)) (by tb_start) lo hE (h1.mono (by tb_rel)) hx3) (by simp only [ht]; omega) (by simp only [szT, sizeN]; omega)
theorem obj_spec {w : World} : ∀ n : Nat, ObjAt w n
  | 0 => obj_step 0 fun _ h => nomatch h
  | n + 1 => obj_step (n + 1) fun k h => by cases h; exact obj_spec n
end
section
-- KI
/-! a dict's keys, whatever they are -/
def Ents (h : Heap) (d : Addr) (es : Array DictEntry) (ep : Nat) : Prop := ∃ o, h.get? d = some o ∧ o.ExactDict ∧ o.data = .dict es ep
theorem Ents.keep {h h' : Heap} {d : Addr} {es : Array DictEntry} {ep : Nat} (x : Ents h d es ep) (e : ∀ o, h.get? d = some o → h'.get? d = some o) : Ents h' d es ep :=
  let ⟨o, ho, r⟩ := x; ⟨o, e _ ho, r⟩
section
variable {prog : Program} {w : World} {A : Around} {E : Value → Shared → Prop} {s : Shared} {g : Heap} {L : Addr} {m : Str → Option Value} {news S : Led}
theorem ents_iter {d : Addr} {es : Array DictEntry} {ep : Nat} {Q : Value → Shared → Prop} (lo : (d == sysModules) = false) (hm : Ents s.heap d es ep)
    (h : Q (.ref s.heap.objs.size) { s with heap := s.heap.push { cls := .type "dict_keyiterator", data := .fields #[.ref d, .int 0 0, .int es.size 0, .int ep 0] } }) :
    wpAny (model prog w) A (pyIter (.ref d)) Q E s := by
  obtain ⟨o, ho, hc, hdat⟩ := hm
  have hT : s.TypeIs (.ref d) "dict" := ⟨o, ho, hc.1⟩
  refine wpAny_pyIter_slot hT F.slot_dict_iter (wpAny_call_entry F.slot_dict_iter hT F.entry_dict_iter ?_ (F.args_dict_iter_1 _))
  unfold Builtin.«dict.__iter__»
  refine wpAny_bind ?_
  unfold Builtin.Dict.dictSlotNone
  refine wpAny_bind (wpAny_notOrdered_dict hT (wpAny_pure ?_))
  show wpAny _ _ (Builtin.Dict.showsAll d >>= _) _ _ s
  unfold Builtin.Dict.showsAll
  rw [if_neg (by rw [lo]; exact Bool.false_ne_true)]
  refine wpAny_bind (wpAny_pure (wpAny_bind (wpAny_dictEntries ho hdat (wpAny_bind (wpAny_dictEpoch ho hdat ?_)))))
  exact wpAny_bind (wpAny_newObj_type (wpAny_pure ⟨_, rfl, "dict_keyiterator", _, ⟨_, Heap.get?_push_size _ rfl, rfl⟩, F.slot_dict_keyiterator_next.lookup, h⟩))

theorem ents_next {it d : Addr} {i ep : Nat} {es : Array DictEntry} {Q : Option Value → Shared → Prop} (hi : i < es.size) (hit : s.heap.IsKeyIter it d i es.size ep) (hm : Ents s.heap d es ep)
    (h : ∀ h', h'.IsKeyIter it d (i + 1) es.size ep → Heap.SameBut it s.heap h' → Q (some es[i].key) { s with heap := h' }) : wpAny (model prog w) A (pyNext (.ref it)) Q E s := by
  obtain ⟨o, ho, hc, hd⟩ := id hit
  obtain ⟨od, hod, hcd, hdd⟩ := hm
  unfold pyNext
  refine wpAny_bind (wpAny_attempt (wpAny_callSpecial?_slot (name := Str.ofString "__next__") hit.typeIs F.slot_dict_keyiterator_next
    (wpAny_call_entry F.slot_dict_keyiterator_next hit.typeIs F.entry_dict_keyiterator_next ?_ (F.args_dict_keyiterator_next_1 _))))
  refine wpAny_bind (wpAny_pure (wpAny_bind (wpAny_bind ?_)))
  first | refine wpAny_bind (wpAny_typeNameOfWhole_keyiter hit.typeIs (wpAny_pure ?_)) | refine wpAny_bind (wpAny_typeNameOf_keyiter hit.typeIs (wpAny_pure ?_))
  refine wpAny_bind (wpAny_fieldsOf ho hd ?_)
  simp only [show Builtin.Dict_items.ownsTuple "dict_keyiterator" = false by decide, Bool.false_eq_true, if_false]
  show wpAny _ _ (if (Value.ref d == Value.none) = true then _ else _) _ _ s
  rw [if_neg (show ¬ ((Value.ref d == Value.none) = true) from Bool.false_ne_true)]
  refine wpAny_bind (wpAny_pure (wpAny_bind (wpAny_dictEntries hod hdd ?_)))
  rw [if_neg (by simp)]
  refine wpAny_bind (wpAny_pure (wpAny_bind (wpAny_dictEpoch hod hdd ?_)))
  rw [if_neg (by simp)]
  refine wpAny_pure ?_
  simp only [show ¬ ((i : Int) < 0) from by omega, if_false, Int.toNat_natCast, Array.getElem?_eq_getElem hi]
  refine wpAny_bind ?_
  first | refine wpAny_bind (wpAny_typeNameOfWhole_keyiter hit.typeIs (wpAny_pure ?_)) | refine wpAny_bind (wpAny_typeNameOf_keyiter hit.typeIs (wpAny_pure ?_))
  refine wpAny_bind (wpAny_isOneOf_keyiter hit.typeIs ?_)
  show wpAny _ _ (setField (.ref it) 1 (rawInt ((i : Int) + 1)) >>= _) _ _ s
  refine wpAny_bind (wpAny_setField ho hd (by simp) ?_)
  have hit' : (s.heap.update it (Obj.mapFields (·.setIfInBounds 1 (rawInt ((i : Int) + 1))))).IsKeyIter it d (i + 1) es.size ep :=
    ⟨_, Heap.get?_update_self _ ho (Obj.isFreed_of_fields (Obj.data_mapFields hd _)), (Obj.cls_mapFields ..).trans hc, by rw [Obj.data_mapFields hd]; simp [rawInt]⟩
  refine wpAny_bind (wpAny_holding (wpAny_bind ?_))
  refine wpAny_isOneOf_keyiter (s := { s with heap := s.heap.update it (Obj.mapFields (·.setIfInBounds 1 (rawInt ((i : Int) + 1)))) }) hit'.typeIs ?_
  show wpAny _ _ (pure es[i].key) _ _ _
  exact wpAny_pure (wpAny_pure ⟨_, rfl, wpAny_pure (h _ hit' (Heap.SameBut.update ..))⟩)

theorem ents_end {it d : Addr} {ep : Nat} {es : Array DictEntry} {Q : Option Value → Shared → Prop} (hh : A.handled = none) (hit : s.heap.IsKeyIter it d es.size es.size ep) (hm : Ents s.heap d es ep)
    (h : ∀ h', Heap.ExtBut it s.heap h' → Q none { s with heap := h' }) : wpAny (model prog w) A (pyNext (.ref it)) Q E s := by
  obtain ⟨o, ho, hc, hd⟩ := id hit
  obtain ⟨od, hod, hcd, hdd⟩ := hm
  unfold pyNext
  refine wpAny_bind (wpAny_attempt (wpAny_callSpecial?_slot (name := Str.ofString "__next__") hit.typeIs F.slot_dict_keyiterator_next
    (wpAny_call_entry F.slot_dict_keyiterator_next hit.typeIs F.entry_dict_keyiterator_next ?_ (F.args_dict_keyiterator_next_1 _))))
  refine wpAny_bind (wpAny_pure (wpAny_bind (wpAny_bind ?_)))
  first | refine wpAny_bind (wpAny_typeNameOfWhole_keyiter hit.typeIs (wpAny_pure ?_)) | refine wpAny_bind (wpAny_typeNameOf_keyiter hit.typeIs (wpAny_pure ?_))
  refine wpAny_bind (wpAny_fieldsOf ho hd ?_)
  simp only [show Builtin.Dict_items.ownsTuple "dict_keyiterator" = false by decide, Bool.false_eq_true, if_false]
  show wpAny _ _ (if (Value.ref d == Value.none) = true then _ else _) _ _ s
  rw [if_neg (show ¬ ((Value.ref d == Value.none) = true) from Bool.false_ne_true)]
  refine wpAny_bind (wpAny_pure (wpAny_bind (wpAny_dictEntries hod hdd ?_)))
  rw [if_neg (by simp)]
  refine wpAny_bind (wpAny_pure (wpAny_bind (wpAny_dictEpoch hod hdd ?_)))
  rw [if_neg (by simp)]
  refine wpAny_pure ?_
  simp only [show ¬ ((es.size : Int) < 0) from by omega, if_false, Int.toNat_natCast, Array.getElem?_eq_none (Nat.le_refl _)]
  refine wpAny_bind ?_
  first | refine wpAny_bind (wpAny_typeNameOfWhole_keyiter hit.typeIs (wpAny_pure ?_)) | refine wpAny_bind (wpAny_typeNameOf_keyiter hit.typeIs (wpAny_pure ?_))
  show wpAny _ _ (setField (.ref it) 0 .none >>= _) _ _ s
  refine wpAny_bind (wpAny_setField ho hd (by simp) ?_)
  show wpAny _ _ (newExc (.type "StopIteration") [] >>= _) _ _ _
  refine wpAny_bind ?_
  simp only [newExc, newTuple]
  refine wpAny_bind (wpAny_newObj_type ?_ (by size_fits))
  refine wpAny_bind (m := firstArgMember _ _) (wpAny_of_eq (a := Value.none) (by first | rfl | (simp only [firstArgMember]; rfl)) ?_)
  refine wpAny_newObj_type ?_ (by size_fits)
  simp only [raiseNew]
  refine wpAny_bind (wpAny_handled ?_)
  rw [show A.in1.handled = none from hh]
  refine wpAny_bind (wpAny_pure (wpAny_throw ?_))
  refine wpAny_bind (wpAny_isInstance (T := "StopIteration") (b := true) ⟨_, Heap.get?_push_size _ rfl, rfl⟩ isSubtype_stop ?_)
  exact wpAny_pure (h _ (((Heap.SameBut.update ..).extBut.push _).push _))

theorem ents_walks (hh : A.handled = none) (I d : Addr) (hne : d ≠ I) (es : Array DictEntry) (ep : Nat) :
    Walks prog w A I [I, d] [I] es.size (fun i v => ∃ e, es[i]? = some e ∧ v = e.key) (fun i h => h.IsKeyIter I d i es.size ep ∧ Ents h d es ep) where
  sub := fun b hb => by simp at hb; simp [hb]
  frame := fun _ _ _ st hk => ⟨st.1.at fun o e => hk I (by simp) o e, st.2.keep fun o e => hk d (by simp) o e⟩
  item := fun i s Q E hi st hQ => by
    refine ents_next hi st.1 st.2 fun h' hit' hs' => ?_
    exact hQ _ h' s.toks ⟨es[i], Array.getElem?_eq_getElem hi, rfl⟩ ⟨hit', st.2.keep fun o e => hs'.extBut d o hne e⟩ fun b o hb e => hs'.extBut b o (fun h => hb (by simp [h])) e
  done := fun s Q E st hQ => ents_end hh st.1 st.2 fun h' he' => hQ h' s.toks fun b o hb e => he' b o (fun h => hb (by simp [h])) e
  self := fun _ _ _ _ st hQ => wpAny_pyIter_keyiter st.1 hQ

theorem src_pairs {d : Addr} {o : Obj} {xs : PairRows} (hh : A.handled = none) (lo : (d == sysModules) = false) (N : News g L s.heap news) (hd : (d, o) ∈ news) (P : PairDict prog w S o xs) :
    Src prog w A (.ref d) [d] xs.length (fun i v => ∃ x, xs[i]? = some x ∧ v = .ref x.2.1) s := by
  intro Q E h
  obtain ⟨hx, es, ep, hdat, hes, _, _⟩ := P
  have hlt : d < s.heap.objs.size := Heap.lt_size (N.get hd)
  have hm : Ents s.heap d es ep := ⟨o, N.get hd, hx, hdat⟩
  have hsz : es.size = xs.length := by rw [← Array.length_toList, hes, List.length_map]
  refine ents_iter lo hm ?_
  have W := ents_walks (prog := prog) (w := w) hh s.heap.objs.size d (Nat.ne_of_lt hlt) es ep
  rw [hsz] at W ⊢
  refine h s.heap.objs.size _ _ _ _ s.toks ⟨W.sub, W.frame, fun i s Q E hi st hQ => W.item i s Q E hi st fun v h' tk hP => hQ v h' tk ?_, W.done, W.self⟩ (fun i h st b hb => ?_) ⟨⟨_, Heap.get?_push_size _ rfl, rfl, rfl⟩, ⟨o, Heap.get?_push_of_some _ (N.get hd), hx, hdat⟩⟩ (fun b hb => ?_) (fun b hb => ?_) (fun b hb => ?_) (fun b o e => Heap.get?_push_of_some _ e)
  · obtain ⟨e, he, rfl⟩ := hP
    rw [← Array.getElem?_toList, hes, List.getElem?_map] at he
    obtain ⟨x, hx, rfl⟩ := Option.map_eq_some_iff.mp he
    exact ⟨x, hx, rfl⟩
  · rw [List.mem_singleton.mp hb]; obtain ⟨o, ho, _⟩ := st.1; exact ⟨o, ho⟩
  · show b < (s.heap.push _).objs.size
    rw [Heap.size_push]
    rcases List.mem_cons.mp hb with rfl | hb
    · exact Nat.lt_succ_self _
    · rw [List.mem_singleton.mp hb]; exact Nat.lt_succ_of_lt hlt
  · rcases List.mem_cons.mp hb with rfl | hb
    · exact .inr (.head _)
    · exact .inl hb
  · rw [List.mem_singleton.mp hb]; exact fresh_top _
end

/-- rows (key, value) of pairs, as a comprehension makes them -/
inductive RowsIn (P : Program) (w : World) (S : Led) : List Value → Tab → Prop
  | nil : RowsIn P w S [] []
  | cons {a ka b : Addr} {x y i j : Int} {t u : Tok} {n k : Nat} {ok : Obj} {vs : List Value} {T : Tab} : (a, tupO [.ref ka, .ref b] n) ∈ S → (ka, ok) ∈ S → TupKeyObj (PySem.intKind P w) [x, y] ok → (b, pairO i j t u k) ∈ S → RowsIn P w S vs T → RowsIn P w S (.ref a :: vs) (((x, y), (i, j)) :: T)
theorem RowsIn.mono {P : Program} {w : World} {S S' : Led} (h : ∀ p ∈ S, p ∈ S') {vs : List Value} {T : Tab} (k : RowsIn P w S vs T) : RowsIn P w S' vs T := by
  induction k with
  | nil => exact .nil
  | cons a b c d _ ih => exact .cons (h _ a) (h _ b) c (h _ d) ih
theorem RowsIn.snoc {P : Program} {w : World} {S : Led} {vs : List Value} {T : Tab} {a ka b : Addr} {x y i j : Int} {t u : Tok} {n k : Nat} {ok : Obj} (h : RowsIn P w S vs T) (h1 : (a, tupO [.ref ka, .ref b] n) ∈ S) (h2 : (ka, ok) ∈ S) (h3 : TupKeyObj (PySem.intKind P w) [x, y] ok) (h4 : (b, pairO i j t u k) ∈ S) :
    RowsIn P w S (vs ++ [.ref a]) (T ++ [((x, y), (i, j))]) := by
  induction h with
  | nil => exact .cons h1 h2 h3 h4 .nil
  | cons a b c d _ ih => exact .cons a b c d ih
theorem RowsIn.length {P : Program} {w : World} {S : Led} {vs : List Value} {T : Tab} (h : RowsIn P w S vs T) : vs.length = T.length := by
  induction h with
  | nil => rfl
  | cons _ _ _ _ _ ih => simp [ih]
theorem RowsIn.rows {P : Program} {w : World} {S : Led} {vs : List Value} {T : Tab} (h : RowsIn P w S vs T) : ∃ xs : PairRows, TabRows S xs T ∧ xs.map (·.1) = T.map (fun p => [p.1.1, p.1.2]) ∧ vs.length = xs.length ∧
    ∀ (i : Nat) (v : Value), vs[i]? = some v → ∃ a ka b k n ok, v = .ref a ∧ (a, tupO [.ref ka, .ref b] n) ∈ S ∧ (ka, ok) ∈ S ∧ TupKeyObj (PySem.intKind P w) k ok ∧ xs[i]? = some (k, ka, .ref b) := by
  induction h with
  | nil => exact ⟨[], .nil, rfl, rfl, fun i v h => by simp at h⟩
  | @cons a ka b x y i j t u n k ok vs T h1 h2 h3 h4 _ ih =>
    obtain ⟨xs, e1, e2, e3, e4⟩ := ih
    refine ⟨([x, y], ka, .ref b) :: xs, .cons h4 e1, by simp [e2], by simp [e3], fun i v h => ?_⟩
    cases i with
    | zero => simp at h; exact ⟨a, ka, b, [x, y], n, ok, h.symm, h1, h2, h3, rfl⟩
    | succ i => simpa using e4 i v (by simpa using h)

section
variable {prog : Program} {w : World} {A : Around} {E : Value → Shared → Prop} {s : Shared} {g : Heap} {L : Addr} {m : Str → Option Value} {news S : Led}
theorem dict_rows {D : Addr} {vs : List Value} {nl : Nat} {T : Tab} {Q : Value → Shared → Prop} (hh : A.handled = none) (hu : A.units + 50 < cLine) (F : Fr g L s.heap m) (N : News g L s.heap news) (hD : (D, listOf vs.toArray nl) ∈ news)
    (R : RowsIn prog w news vs T) (hn : (T.map (·.1)).Nodup) (h64 : T.length ≤ 100000) (hbig : sysModules < g.objs.size)
    (h : ∀ d h' o' xs tk, (d == sysModules) = false → Fr g L h' m → News g L h' ((d, o') :: news) → (∀ p ∈ news, p.1 < d) → PairDict prog w news o' xs → TabRows news xs T → Q (.ref d) { s with heap := h', toks := tk }) :
    wpAny (model prog w) A (call (.type "dict") [.ref D]) Q E s := by
  obtain ⟨xs, hT, hk, hlen, hrow⟩ := R.rows
  have hnx : (xs.map (·.1)).Nodup := by
    rw [hk]
    have e : (T.map fun p => [p.1.1, p.1.2]) = (T.map (·.1)).map fun q => [q.1, q.2] := by rw [List.map_map]; rfl
    rw [e]
    refine List.pairwise_map.mpr (hn.imp fun hne q => hne ?_)
    simp only [List.cons.injEq, and_true] at q
    exact Prod.ext q.1 q.2
  have hlx : xs.length = T.length := by have := congrArg List.length hk; simpa using this
  refine dict_pairs (c := A.units + 8) (Pk := fun i k x => ∃ ks ka b ok, k = .ref ka ∧ x = .ref b ∧ (ka, ok) ∈ news ∧ TupKeyObj (PySem.intKind prog w) ks ok ∧ xs[i]? = some (ks, ka, .ref b)) (Di := fun i o => PairDict prog w news o (xs.take i)) hh (N.get hD) ?_ (Nat.le_refl _) ?_ ?_ ?_
  · intro i v hv
    obtain ⟨a, ka, b, ks, n, ok, rfl, ha, hka, ht, hx⟩ := hrow i v hv
    exact ⟨a, _, _, n, rfl, N.get ha, ks, ka, b, ok, rfl, rfl, hka, ht, hx⟩
  · rintro A' s' i _ _ o Q' E' hu' hi ⟨ks, ka, b, ok, rfl, rfl, hka, ht, hx⟩ ho hDi hold hQ'
    obtain ⟨c1, es, ep, c2, c3, c4, c5⟩ := hDi
    have hDo : s'.heap.DictOfH (pairKind prog w) s.heap.objs.size (xs.take i) := ⟨o, es, ep, ho, c1, c2, c3, fun y hy => let ⟨ok, q, r⟩ := c5 y hy; r.key (hold _ _ (N.get q)), c4⟩
    refine wpAny_dictSet_heap (knd := pairKind prog w) (show A'.units < cLine by omega) (ht.key (hold _ _ (N.get hka))) hDo (fun h' hm hs => ?_) (by rw [List.length_take, sizeLine_eq]; omega)
    obtain ⟨o', es', ep', ho', hc', hd', he', _, hn'⟩ := hm
    have hnone : atKey (xs.take i) ks = none := by
      cases q : atKey (xs.take i) ks with
      | none => rfl
      | some p =>
        exfalso
        unfold atKey at q
        obtain ⟨y, hy, _⟩ := Option.map_eq_some_iff.mp q
        have hy1 := List.mem_of_find?_eq_some hy
        have hy2 : y.1 = ks := by simpa using List.find?_some hy
        obtain ⟨j, hj⟩ := List.mem_iff_getElem?.mp hy1
        rw [List.getElem?_take] at hj
        split at hj
        · rename_i hlt
          have h1 : (xs.map (·.1))[j]? = some ks := by rw [List.getElem?_map, hj]; simp [hy2]
          have h2 : (xs.map (·.1))[i]? = some ks := by rw [List.getElem?_map, hx]; rfl
          have := (List.getElem?_inj (List.getElem?_eq_some_iff.mp h1).1 hnx).mp (h1.trans h2.symm)
          omega
        · cases hj
    refine hQ' h' o' _ hs ho' ?_
    show PairDict prog w news o' (xs.take (i + 1))
    rw [storedH_new hnone] at he' hn'
    rw [List.take_add_one, hx]
    refine ⟨hc', es', ep', hd', he', hn', fun y hy => ?_⟩
    rcases List.mem_append.mp hy with hy | hy
    · exact c5 y hy
    · rw [show y = (ks, ka, .ref b) by simpa using hy]; exact ⟨ok, hka, ht⟩
  · exact ⟨⟨rfl, rfl, rfl⟩, #[], 0, rfl, rfl, List.nodup_nil, fun _ hx => by simp at hx⟩
  · intro h' o' tk hold ho' hD'
    rw [hlen, List.take_length] at hD'
    exact h _ h' o' xs tk (F.notModules hbig) (F.keeps hold) (news_pushed F N hold ho' rfl) (fun p hp => Heap.lt_size (N p hp).1) hD' hT

theorem item_pairI {d a : Addr} {o : Obj} {xs : PairRows} {k : List Int} {value slice : Expr} {p : Addr × Value} {Q : Value → Shared → Prop} (hu : A.units + 1 < cLine) (N : News g L s.heap news) (hd : (d, o) ∈ news) (P : PairDict prog w S o xs) (sub : ∀ p ∈ S, p ∈ news) {ok : Obj} (hk : (a, ok) ∈ news) (ht : TupKeyObj (PySem.intKind prog w) k ok)
    (hp : atKey xs k = some p) (h : ∀ tk, Q p.2 { s with toks := tk })
    (hs : subscripted slice false (.ref d) (.ref a) = operate [.ref d, .ref a] (getItem (.ref d) (.ref a)) := by with_unfolding_all rfl) (hg : ∀ r, letTemporaryGo value (.ref d) r = pure () := by intro _; with_unfolding_all rfl) :
    wpAny (model prog w) A (subscriptTail value slice (.ref d) (.ref a)) Q E s :=
  subscriptTail_builtin (P.at N hd sub).typeIs slot_dict_getitem.lookup (wpAny_getItem_heap (knd := pairKind prog w) (tupleKind_room_in1 hu) (ht.key (N.get hk)) (P.at N hd sub) hp (h _)) hs hg

/-! a pair in a list of pairs -/
open PySem.SeqAt in
theorem eq_pairs {a b : Addr} {i j i' j' : Int} {t u t' u' : Tok} {n n' : Nat} (hu : A.units + 1 < cLine) (ha : s.heap.get? a = some (pairO i j t u n)) (hb : s.heap.get? b = some (pairO i' j' t' u' n')) : EqAt A s (.ref a) (.ref b) (decide ((i, j) = (i', j'))) := by
  by_cases e : a = b
  · subst e
    rw [ha] at hb
    have h1 : ([.int i t, .int j u] : List Value) = [.int i' t', .int j' u'] := by
      simp only [Option.some.injEq, Obj.mk.injEq, Data.seq.injEq] at hb
      exact congrArg Array.toList hb.2.2.1.1
    simp only [List.cons.injEq, Value.int.injEq] at h1
    rw [h1.1.1, h1.2.1.1]
    simpa using EqAt.same (A := A) (s := s) (.ref a)
  · refine EqAt.of_refs e ?_
    have h1 := RcAt.tuples (A := A) (e := fun k => if k = 0 then i == i' else j == j') (s := s) (l := a) (b := b) (items := #[.int i t, .int j u]) (items2 := #[.int i' t', .int j' u']) ⟨_, ha, rfl, n, rfl⟩ ⟨_, hb, rfl, n', rfl⟩ (by omega) fun k h1 h2 => by
      have hk : k = 0 ∨ k = 1 := by simp at h1; omega
      rcases hk with rfl | rfl
      · exact EqAt.int_int (A := A.in1) (s := s) i t i' t'
      · exact EqAt.int_int (A := A.in1) (s := s) j u j' u'
    have e2 : ((List.range (min (#[Value.int i t, .int j u] : Array Value).size (#[Value.int i' t', .int j' u'] : Array Value).size)).all (fun k => if k = 0 then i == i' else j == j') && (#[Value.int i t, .int j u] : Array Value).size == (#[Value.int i' t', .int j' u'] : Array Value).size) = decide ((i, j) = (i', j')) := by
      simp [List.range, List.range.loop, Prod.mk.injEq, Bool.decide_and]
      first
        | rfl
        | (by_cases e1 : i = i' <;> by_cases e2 : j = j' <;> simp [e1, e2])
    rw [e2] at h1
    exact h1
open PySem.SeqAt in
theorem notin_pairs {D a : Addr} {vs : List Value} {ps : List (Int × Int)} {n : Nat} {i j : Int} {t u : Tok} {k : Nat} {Q : Value → Shared → Prop} (hu : A.units + 3 < cLine) (N : News g L s.heap news) (hD : (D, listOf vs.toArray n) ∈ news) (hv : PairsIn S vs ps) (sub : ∀ p ∈ S, p ∈ news) (ha : (a, pairO i j t u k) ∈ news)
    (h : Q (.bool (!decide ((i, j) ∈ ps))) s) : wpAny (model prog w) A (compareOp .NotIn (.ref a) (.ref D)) Q E s := by
  classical
  have uniq : ∀ {b : Addr} {x y x' y' : Int} {t u t' u' : Tok} {n n' : Nat}, s.heap.get? b = some (pairO x y t u n) → s.heap.get? b = some (pairO x' y' t' u' n') → (x, y) = (x', y') := by
    intro b x y x' y' t u t' u' n n' h1 h2
    rw [h1] at h2
    have h3 : ([.int x t, .int y u] : List Value) = [.int x' t', .int y' u'] := by
      simp only [Option.some.injEq, Obj.mk.injEq, Data.seq.injEq] at h2
      exact congrArg Array.toList h2.2.2.1.1
    simp only [List.cons.injEq, Value.int.injEq] at h3
    rw [h3.1.1, h3.2.1.1]
  let e : Value → Bool := fun v => decide (∃ b t u n, v = .ref b ∧ s.heap.get? b = some (pairO i j t u n))
  have ev : ∀ {b : Addr} {x y : Int} {t u : Tok} {n : Nat}, s.heap.get? b = some (pairO x y t u n) → e (.ref b) = decide ((x, y) = (i, j)) := by
    intro b x y t u n hb
    refine decide_eq_decide.mpr ⟨?_, fun q => ?_⟩
    · rintro ⟨b', t', u', n', q, h1⟩
      cases q
      exact uniq hb h1
    · cases q; exact ⟨b, t, u, n, rfl, hb⟩
  refine notIn_listAt (items := vs.toArray) e ⟨_, N.get hD, rfl, n, rfl⟩ (fun y hy => ?_) ?_
  · obtain ⟨k', hk'⟩ := List.mem_iff_getElem?.mp (show y ∈ vs by simpa using hy)
    obtain ⟨b, x, y', t', u', n', rfl, hm, _⟩ := hv.at hk'
    rw [ev (N.get (sub _ hm))]
    exact eq_pairs (A := A.in1) (by rw [units_in1]; omega) (N.get (sub _ hm)) (N.get ha)
  · have e1 : vs.toArray.any e = decide ((i, j) ∈ ps) := by
      rw [List.any_toArray]
      clear hD h
      induction hv with
      | nil => rfl
      | @cons b x y t' u' n' vs ps hm _ ih =>
        rw [List.any_cons, ih, ev (N.get (sub _ hm))]
        by_cases q : (i, j) = (x, y)
        · rw [q]; simp
        · have q' : ¬ (x, y) = (i, j) := fun h => q h.symm
          simp [q, q']
    rw [e1]
    exact h
end
end
section
-- KJ
theorem TabRows.at {S : Led} {xs : PairRows} {T : Tab} (h : TabRows S xs T) : ∀ {k : Nat} {x : List Int × Addr × Value}, xs[k]? = some x → ∃ x1 y1 i j ka b t u n, x = ([x1, y1], ka, .ref b) ∧ T[k]? = some ((x1, y1), (i, j)) ∧ (b, pairO i j t u n) ∈ S := by
  induction h with
  | nil => intro k x h; simp at h
  | @cons b ka i j x1 y1 t u n xs T hm _ ih =>
    intro k x h
    cases k with
    | zero => simp at h; exact ⟨x1, y1, i, j, ka, b, t, u, n, h.symm, rfl, hm⟩
    | succ k => simpa using ih (k := k) (by simpa using h)
theorem atKey_at {xs : PairRows} (hn : (xs.map (·.1)).Nodup) : ∀ {k : Nat} {ks : List Int} {a : Addr} {v : Value}, xs[k]? = some (ks, a, v) → atKey xs ks = some (a, v) := by
  induction xs with
  | nil => intro k ks a v h; simp at h
  | cons x r ih =>
    intro k ks a v h
    simp only [List.map_cons, List.nodup_cons] at hn
    cases k with
    | zero => simp at h; subst h; simp [atKey]
    | succ k =>
      have h' : r[k]? = some (ks, a, v) := by simpa using h
      have hne : ¬ x.1 = ks := fun e => hn.1 (List.mem_map.mpr ⟨_, List.mem_of_getElem? h', e.symm⟩)
      have := ih hn.2 h'
      simp only [atKey, List.find?_cons, hne, decide_false] at this ⊢
      exact this
theorem thru_snoc (TA TB : Tab) {k : Nat} {p : (Int × Int) × (Int × Int)} (h : TA[k]? = some p) : thru (TA.take (k + 1)) TB = thru (TA.take k) TB ++ (match tget TB p.2 with | none => [] | some q => [(p.1, q)]) := by
  rw [List.take_add_one, h]
  unfold thru
  rw [List.filterMap_append]
  congr 1
  cases q : tget TB p.2 <;> simp [q]
theorem thru_keys (TA TB : Tab) : ((thru TA TB).map (·.1)).Sublist (TA.map (·.1)) := by
  induction TA with
  | nil => exact List.Sublist.refl _
  | cons p r ih =>
    unfold thru at ih ⊢
    cases q : tget TB p.2 with
    | none => simp only [List.filterMap_cons, q, Option.map_none, List.map_cons]; exact ih.cons _
    | some q' => simp only [List.filterMap_cons, q, Option.map_some, List.map_cons]; exact ih.cons_cons _
theorem thru_len (TA TB : Tab) : (thru TA TB).length ≤ TA.length := by
  have := (thru_keys TA TB).length_le; simpa using this
theorem stayT_keys (l : List (Int × Int)) : (stayT l).map (·.1) = l := by
  unfold stayT; rw [List.map_map]; exact List.map_id l
theorem stayT_snoc (l : List (Int × Int)) {k : Nat} {p : Int × Int} (h : l[k]? = some p) : stayT (l.take (k + 1)) = stayT (l.take k) ++ [(p, p)] := by
  rw [List.take_add_one, h]; simp [stayT]
theorem refsT_len : ∀ x, (refsT x).length ≤ szT x := by
  have zl : ∀ xs : List Tr, (∀ y ∈ xs, (refsT y).length ≤ szT y) → ((xs.map refsT).flatten).length ≤ szL xs := by
    intro xs
    induction xs with
    | nil => intro _; exact Nat.le_refl _
    | cons y r ih => intro h; have h1 := h y (.head _); have h2 := ih fun z hz => h z (.tail _ hz); simp only [List.map_cons, List.flatten_cons, List.length_append, szL]; omega
  refine tr_ind fun x h => ?_
  have sub : ∀ (ks : List Str) (xs : List Tr), (∀ y ∈ xs, (refsT y).length ≤ szT y) → (((sortK (ks.zip (refsM xs))).map (·.2)).flatten).length ≤ szL xs := by
    intro ks xs hh
    rw [refsM_eq, sort_zip]
    refine Nat.le_trans (zl _ fun y hy => ?_) ?_
    · obtain ⟨r, hr, rfl⟩ := List.mem_map.mp hy
      exact hh _ (List.of_mem_zip ((sortK_perm _).mem_iff.mp hr)).2
    · have h1 := szL_perm ((sortK_perm (ks.zip xs)).map (·.2))
      have h2 := @szL_zip ks xs
      omega
  cases x with
  | arr xs => have := zl xs fun y hy => h y hy; simp only [refsT, refsM_eq, szT]; omega
  | dict ks xs => have := sub ks xs fun y hy => h y hy; simp only [refsT, szT]; omega
  | stream ks xs b => have := sub ks xs fun y hy => h y hy; simp only [refsT, szT]; omega
  | ref n g => simp [refsT, szT]
  | _ => simp [refsT, szT]
theorem refsD_len (x : Tr) : (ddp [] (refsT x)).length ≤ szT x := Nat.le_trans (by simpa using ddp_len (refsT x) []) (refsT_len x)
/-- the turn of the law's loop -/
theorem due_snoc (T : Tab) {l : List (Int × Int)} {k : Nat} {p : Int × Int} (h : l[k]? = some p) : ddp [] ((l.take (k + 1)).filterMap (tget T)) =
    match tget T p with | none => ddp [] ((l.take k).filterMap (tget T)) | some q => if q ∈ ddp [] ((l.take k).filterMap (tget T)) then ddp [] ((l.take k).filterMap (tget T)) else ddp [] ((l.take k).filterMap (tget T)) ++ [q] := by
  rw [List.take_add_one, h]
  simp only [Option.toList_some, List.filterMap_append, List.filterMap_cons, List.filterMap_nil]
  cases tget T p with
  | none => simp
  | some q => exact ddp_snoc _ _ _
theorem told_ne {x y : Tr} (e : toldD x = toldD y) (hx : ht x ≤ 6) : ∃ ds, toldD x = .tuple ds ∧ toldD y = .tuple ds ∧ dpDs ds ≤ 13 := by
  obtain ⟨ds, hd⟩ := toldD_tuple x
  have h1 := told_depth x
  rw [hd] at h1
  simp only [dpD] at h1
  exact ⟨ds, hd, e ▸ hd, by omega⟩
end
section
-- KL
section
variable {w : World} {dp un : Nat} {fr : Option (List Env)} {gd : Option (List Code)} {s : Shared} {g : Heap} {L D : Addr} {m : Str → Option Value} {news tl : Led} {Q E : Value → Shared → Prop}
theorem pen_K {mean : ExcName → Option Value} {mg mb : Str → Option Value} {scr : Addr} {vs : List Value} {ns : List Int} (F : Fr g L s.heap m) (N : News g L s.heap news) (X : (hd.heap_1 w.params).In g) (T : Top hdV (looseW hdV [Str.ofString "PaperError"]) mean mg mb g)
    (hl : g.IsList scr vs.toArray) (hi : IntsAre vs ns) (h63 : ns.length ≤ 63) (hd1 : dp + 10 < recursionLimit) (hu : un + 200 < cLine)
    (ret : ∀ D i t u h' tk, Fr g L h' m → News g L h' (news ++ [(D, penO i 0 t u 0)]) → (∀ p ∈ news, p.1 ≠ D) → 0 ≤ i → Q (.ref D) { s with heap := h', toks := tk }) :
    wpAny (model PySem.Challenge.rw_og0158_01.row.prog w) (ar dp un fr gd) (call (.ref 296) [.ref scr]) Q E s := by
  have X0 : Foot w (hideAll s.heap (([] : Led).map (·.1))) := foot_of ⟨X, _, _, _, T⟩ F N fun _ h => nomatch h
  refine pen_spec X0 (hl.at fun o e => hideAll_get _ (F.keep _ _ e) (by simp)) hi h63 hd1 hu fun D i t u tl h' tk M hm hi0 => ?_
  refine ret D i t u h' tk (M.fr F) (fun p hp => M.news F N p ?_) (fun p hp e => ?_) hi0
  · rcases List.mem_append.mp hp with hp | hp
    · exact List.mem_append_right _ hp
    · rw [List.mem_singleton.mp hp]; exact List.mem_append_left _ hm
  · have h1 := (M.2 _ hm).2
    rw [← e, (N p hp).1] at h1; cases h1

theorem table_K {mean : ExcName → Option Value} {mg mb : Str → Option Value} {i j : Int} {t u : Tok} {k : Nat} (F : Fr g L s.heap m) (N : News g L s.heap news) (X : (hd.heap_1 w.params).In g) (T : Top hdV (looseW hdV [Str.ofString "PaperError"]) mean mg mb g)
    (sp : Spl [(D, penO i j t u k)] news tl) (off : ∀ p ∈ tl, p.1 ≠ D) (hi : 0 ≤ i) (hj : 0 ≤ j) (hj2 : j ≤ 90000) (hd1 : dp + 20 < recursionLimit) (hu : un + 300 < cLine)
    (ret : ∀ Dt T i' j' t1 t2 n' tl' h' tk, Fr g L h' m → News g L h' (tl' ++ (tl ++ [(D, penO i' j' t1 t2 n')])) → (∀ p ∈ tl', p.1 ≠ D) → (∀ q ∈ tl', ∀ p ∈ news, p.1 ≠ q.1) → 0 ≤ i' → 0 ≤ j' → j' ≤ j + 30 → TabIn PySem.Challenge.rw_og0158_01.row.prog w tl' Dt T → (T.map (·.1)).Nodup → T.length ≤ 20 → Q (.ref Dt) { s with heap := h', toks := tk }) :
    wpAny (model PySem.Challenge.rw_og0158_01.row.prog w) (ar dp un fr gd) (call (.ref 315) [.ref D]) Q E s := by
  have hD := sp.mem (List.mem_singleton.mpr rfl)
  refine table_spec (foot_of ⟨X, _, _, _, T⟩ F N fun p hp => by rw [List.mem_singleton.mp hp]; exact hD) (N.get hD) hi hj hj2 hd1 hu fun Dt T' i' j' t1 t2 n' tl' h' tk kp ho a b c hn d e f => ?_
  have hfar : ∀ q ∈ tl', ∀ p ∈ news, p.1 ≠ q.1 := fun q hq p hp he => by
    have := (hn q hq).2
    rw [← he, (N p hp).1] at this; cases this
  refine ret Dt T' i' j' t1 t2 n' tl' h' tk (keep_but F N hD kp) (fun p hp => ?_) (fun q hq => (hfar q hq _ hD).symm) hfar a b c d e f
  rcases List.mem_append.mp hp with hp | hp
  · refine ⟨(hn p hp).1, fun e => ?_, ?_⟩
    · obtain ⟨_, _, _, ho, _⟩ := F.ns
      have := (hn p hp).2
      rw [e, ho] at this; cases this
    · cases q : g.get? p.1 with
      | none => rfl
      | some o => have := (hn p hp).2; rw [F.keep _ _ q] at this; cases this
  rcases List.mem_append.mp hp with hp | hp
  · have hpn : p ∈ news := by rw [sp.eq]; exact List.mem_append_left _ hp
    exact ⟨kp _ _ (off p hp) (N p hpn).1, (N p hpn).2⟩
  · rw [List.mem_singleton.mp hp]; exact ⟨ho, (N _ hD).2⟩
end
section
variable {prog : Program} {w : World} {A : Around} {E : Value → Shared → Prop} {s : Shared} {env : Env} {g : Heap} {m : Str → Option Value}
theorem compPN {scope : Scope} {cl : List (Str × Addr)} {x : Str} {ifs : List Expr} {elt : Expr} {mm : Addr → Str → Option Value} {xv : Value} {K : Addr → Heap → Nat → Prop} {src : List Addr} {n : Nat} {P : Nat → Value → Prop} {news : Led} (J : Led → Nat → List Value → Led → Prop)
    (hsrc : Src prog w A xv src n P s) (hsz : n ≤ sizeLine) (X : Foot w g) (F : Fr g env.locals s.heap m) (N : News g env.locals s.heap news) (hss : ∀ b ∈ src, b ∈ news.map (·.1) ∨ ∃ o, g.get? b = some o) (hJ : J news 0 [] [])
    (turn : ∀ C i v ys tl s₃ m₃ g₃ E', i < n → P i v → J news i ys tl → Off news tl → Foot w g₃ → Fr g₃ C s₃.heap m₃ → News g₃ C s₃.heap (tl ++ news) → m₃ x = some v →
      wpAny (model prog w) A (forIn ifs true fun c r => if r = true then do let ok ← isTrue c (compEnvC scope cl C env) (eval c (compEnvC scope cl C env)); pure (ForInStep.yield ok) else pure (ForInStep.yield r))
        (fun ok s₄ => (∃ tk, s₄ = { s₃ with toks := tk }) ∧ (ok = true → wpAny (model prog w) A (eval elt (compEnvC scope cl C env)) (EltP g₃ C news tl (J news (i + 1)) ys s₄) E' s₄) ∧ (ok = false → J news (i + 1) ys tl)) E' s₃)
    (fin : ∀ D h' tk ys tl e, Fr g env.locals h' (mm D) → News g env.locals h' ((D, listOf (List.toArray ys) e) :: (tl ++ news)) → Off news tl → Off news [(D, listOf (List.toArray ys) e)] → (∀ p ∈ tl, p.1 ≠ D) → J news n ys tl → ys.length ≤ n → K D h' tk) :
    CompK prog w A env scope cl x ifs elt g m mm xv s K := compP (J news) hsrc hsz X F N hss hJ turn fin
end
theorem dpDs_pairs (ps : List (Int × Int)) : dpDs (ps.map fun p => Dat.tuple [.int p.1, .int p.2]) ≤ 1 := dpDs_le fun d hd => by
  obtain ⟨p, _, rfl⟩ := List.mem_map.mp hd
  simp [dpD, dpDs]
theorem abs_led {g h : Heap} {L : Addr} {news : Led} (N : News g L h news) : ∃ B, B = news ∧ News g L h B := ⟨_, rfl, N⟩
theorem told_ref {S : Led} {v : Value} {x : Tr} (h : DatIn S v (toldD x)) : ∃ a, v = .ref a := by
  obtain ⟨ds, e⟩ := toldD_tuple x
  rw [e] at h
  cases h with
  | tuple _ _ => exact ⟨_, rfl⟩
section
variable {w : World} {dp un : Nat} {fr : Option (List Env)} {gd : Option (List Code)} {s : Shared} {g : Heap} {L dT : Addr} {m : Str → Option Value} {S S2 news : Led} {v : Value} {x : Tr} {T : Tab} {Q E : Value → Shared → Prop}
theorem ren_N {mean : ExcName → Option Value} {mg mb : Str → Option Value} (F : Fr g L s.heap m) (N : News g L s.heap news) (X : (hd.heap_1 w.params).In g) (T' : Top hdV (looseW hdV [Str.ofString "PaperError"]) mean mg mb g) (hx : TrIn w S v x) (sub : ∀ p ∈ S, p ∈ news) (hT : TabIn PySem.Challenge.rw_og0158_01.row.prog w S2 dT T) (sub2 : ∀ p ∈ S2, p ∈ news) (hn : ht x ≤ 6) (hd1 : dp + 4 * 7 + 30 < recursionLimit) (hu : un + 40 * 7 + 300 < cLine)
    (ret : ∀ r tl h' tk', Off news tl → Fr g L h' m → News g L h' (tl ++ news) → TrIn w (tl ++ news) r (renT T x) → Q r { s with heap := h', toks := tk' }) :
    wpAny (model PySem.Challenge.rw_og0158_01.row.prog w) (ar dp un fr gd) (call (.ref 282) [v, .ref dT]) Q E s :=
  ren_K (n := 7) (S := news) F N X T' (hx.mono sub) (hT.mono sub2) (fun _ h => h) (Nat.lt_succ_of_le hn) hd1 hu ret
theorem told_N {mean : ExcName → Option Value} {mg mb : Str → Option Value} (F : Fr g L s.heap m) (N : News g L s.heap news) (X : (hd.heap_1 w.params).In g) (T' : Top hdV (looseW hdV [Str.ofString "PaperError"]) mean mg mb g) (hx : TrIn w S v x) (sub : ∀ p ∈ S, p ∈ news) (hn : ht x ≤ 6) (hd1 : dp + 4 * 7 + 20 < recursionLimit) (hu : un + 40 * 7 + 200 < cLine)
    (ret : ∀ a tl h' tk', Off news tl → Fr g L h' m → News g L h' (tl ++ news) → DatIn (tl ++ news) (.ref a) (toldD x) → Q (.ref a) { s with heap := h', toks := tk' }) :
    wpAny (model PySem.Challenge.rw_og0158_01.row.prog w) (ar dp un fr gd) (call (.ref 265) [v]) Q E s :=
  told_K (n := 7) (S := news) F N X T' (hx.mono sub) (fun _ h => h) (Nat.lt_succ_of_le hn) hd1 hu fun r tl h' tk' o F N D => by
    obtain ⟨a, rfl⟩ := told_ref D
    exact ret a tl h' tk' o F N D
theorem refs_N {mean : ExcName → Option Value} {mg mb : Str → Option Value} (F : Fr g L s.heap m) (N : News g L s.heap news) (X : (hd.heap_1 w.params).In g) (T' : Top hdV (looseW hdV [Str.ofString "PaperError"]) mean mg mb g) (hx : TrIn w S v x) (sub : ∀ p ∈ S, p ∈ news) (hsz : szT x ≤ 100) (hd1 : dp + 30 < recursionLimit) (hu : un + 400 < cLine)
    (ret : ∀ D vs n tl h' tk', Off news tl → Fr g L h' m → News g L h' (tl ++ news) → (D, listOf (List.toArray vs) n) ∈ tl → PairsIn (tl ++ news) vs (ddp [] (refsT x)) → Q (.ref D) { s with heap := h', toks := tk' }) :
    wpAny (model PySem.Challenge.rw_og0158_01.row.prog w) (ar dp un fr gd) (call (.ref 277) [v]) Q E s :=
  refs_K (S := news) F N X T' (hx.mono sub) (fun _ h => h) (Nat.le_trans hsz (by decide)) hd1 hu ret
end
local macro_rules | `(tactic| walk_at "call ref") => `(tactic| (k_here; (with_reducible show wpAny _ _ (call (Value.ref 296) _) _ _ _); refine Halt.go ?_))
local macro_rules | `(tactic| walk_at "call ref") => `(tactic| (k_here; (with_reducible show wpAny _ _ (call (Value.ref 308) _) _ _ _); refine Halt.go ?_))
local macro_rules | `(tactic| walk_at "call ref") => `(tactic| (k_here; (with_reducible show wpAny _ _ (call (Value.ref 265) _) _ _ _); refine Halt.go ?_))
local macro_rules | `(tactic| walk_at "call ref") => `(tactic| (k_here; (with_reducible show wpAny _ _ (call (Value.ref 315) _) _ _ _); refine Halt.go ?_))
local macro_rules | `(tactic| walk_at "call ref") => `(tactic| (k_here; (with_reducible show wpAny _ _ (call (Value.ref 282) _) _ _ _); refine Halt.go ?_))
local macro_rules | `(tactic| walk_at "call ref") => `(tactic| (k_here; (with_reducible show wpAny _ _ (call (Value.ref 277) _) _ _ _); refine Halt.go ?_))
local macro_rules | `(tactic| walk_at "call ref") => `(tactic| (k_here; (with_reducible show wpAny _ _ (call (Value.ref 289) _) _ _ _); refine Halt.go ?_))
section
variable {M : Model} {A : Around} {E : Value → Shared → Prop} {s : Shared} {g : Heap} {L c : Addr} {m : Str → Option Value} {news keep : Led} {env : Env} {x : Str} {v : Value} {v₀ : Option Value} {o : Obj}
theorem store_c {Q : Unit → Shared → Prop} (F : Fr g L s.heap m) (N : News g L s.heap news) (hc : env.cells.lookup x = some c) (hm : (c, o) ∈ news) (hd : o.data = .cell v₀) (hkeep : ∀ p ∈ keep, p ∈ news ∧ p.1 ≠ c)
    (h : ∀ h' o', Fr g L h' m → News g L h' ((c, o') :: keep) → o'.data = .cell (some v) → Q () { s with heap := h' })
    (hk : env.scope.kind = .function) (hx : env.kindOf x = some .cell) : wpAny M A (storeName env x v) Q E s := by
  refine wpAny_storeName_cell hk hx hc ⟨o, N.get hm, hd⟩ fun h' hv hs => ?_
  obtain ⟨o', ho', hd'⟩ := hv
  refine h h' o' (F.change hs (N _ hm).2.1 (N.fresh hm)) (fun p hp => ?_) hd'
  rcases List.mem_cons.mp hp with rfl | hp
  · exact ⟨ho', (N _ hm).2.1, (N _ hm).2.2⟩
  · exact ⟨(hs.2 _ (hkeep p hp).2).trans (N p (hkeep p hp).1).1, (N p (hkeep p hp).1).2⟩
end
theorem obj_spec3 {w : World} : ObjAt w 3 := obj_spec 3
theorem law_post {M : Model} {A : Around} {t : Sem Flow} {Q : Flow → Shared → Prop} {E : Value → Shared → Prop} {s s1 : Shared} {L : Addr}
    (h : ∀ R : Result → Shared → Prop, (∀ h' tk m', Fr s1.heap L h' m' → R (.ok (.ret (.bool true))) { s1 with heap := h', toks := tk }) → wpAny M A t (fun fl s' => R (.ok (.ret (match fl with | .ret v => v | _ => .none))) s') (fun _ _ => False) s)
    (R0 : Result → Shared → Prop) (h0 : ∀ h' tk m', Fr s1.heap L h' m' → R0 (.ok (.ret (.bool true))) { s1 with heap := h', toks := tk }) (hQ : ∀ fl s', R0 (.ok (.ret (match fl with | .ret v => v | _ => .none))) s' → Q fl s') : wpAny M A t Q E s :=
  wpAny_mono (h R0 h0) hQ fun _ _ y => y.elim
local macro_rules | `(tactic| walk_at "subscriptTail Name Name ref ref") => `(tactic| (k_here; (with_reducible show wpAny _ _ (subscriptTail _ _ (Value.ref _) (Value.ref _)) _ _ _); refine Halt.go ?_))
local macro_rules | `(tactic| walk_at "subscriptTail Name Subscript ref ref") => `(tactic| (k_here; (with_reducible show wpAny _ _ (subscriptTail _ _ (Value.ref _) (Value.ref _)) _ _ _); refine Halt.go ?_))
local macro_rules | `(tactic| walk_at "subscriptTail") => `(tactic| (k_here; (with_reducible show wpAny _ _ (subscriptTail _ _ (Value.ref _) (Value.ref _)) _ _ _); refine Halt.go ?_))
local macro_rules | `(tactic| walk_at "compareOp In ref ref") => `(tactic| (k_here; (with_reducible show wpAny _ _ (compareOp CmpOp.In (Value.ref _) (Value.ref _)) _ _ _); refine Halt.go ?_))
local macro_rules | `(tactic| walk_at "compareOp NotIn ref ref") => `(tactic| (k_here; (with_reducible show wpAny _ _ (compareOp CmpOp.NotIn (Value.ref _) (Value.ref _)) _ _ _); refine Halt.go ?_))
local macro_rules | `(tactic| walk_at "compareOp Eq ref ref") => `(tactic| (k_here; (with_reducible show wpAny _ _ (compareOp CmpOp.Eq (Value.ref _) (Value.ref _)) _ _ _); refine Halt.go ?_))
local macro_rules | `(tactic| walk_at "compareOp NotEq ref ref") => `(tactic| (k_here; (with_reducible show wpAny _ _ (compareOp CmpOp.NotEq (Value.ref _) (Value.ref _)) _ _ _); refine Halt.go ?_))
/-! names held so that the head lays no twins of its constants (they are not needed, and large) -/
theorem law_holds.tw5062152199769849712 : True := trivial
theorem law_holds.tw5389484754426515990 : True := trivial
theorem law_holds.tw1528713142287359940 : True := trivial
theorem law_holds.tw13154458805202713791 : True := trivial
theorem law_holds.tw6525285699034195804 : True := trivial
theorem law_holds.tw17765402900961652773 : True := trivial
theorem law_holds.tw14224323468409063320 : True := trivial
theorem law_holds.tw5668382599961370931 : True := trivial
theorem law_holds.tw8585954005363943223 : True := trivial
theorem law_holds.tw1832781179975386347 : True := trivial
theorem law_holds.tw1893657220474155323 : True := trivial
theorem law_holds.tw7052015572144024013 : True := trivial
theorem law_holds.tw15005287543988543360 : True := trivial
theorem law_holds.tw545679637281252710 : True := trivial
theorem law_holds.tw3385388223940464111 : True := trivial
theorem law_holds.tw14390768473861134807 : True := trivial
theorem law_holds.tw7288501770760464825 : True := trivial
theorem law_holds.tw12889056044993165476 : True := trivial
theorem law_holds.tw590652811298587419 : True := trivial
theorem law_holds.tw15759456685926392790 : True := trivial
theorem law_holds.tw12106023690977579466 : True := trivial
theorem law_holds.tw16947615914383616782 : True := trivial
theorem law_holds.tw12456547296908542839 : True := trivial
theorem law_holds.tw12977093529070104392 : True := trivial
theorem law_holds.tw8417186165934385351 : True := trivial
theorem law_holds.tw6727219029552735585 : True := trivial
theorem law_holds.tw11289095316329951393 : True := trivial
theorem law_holds.tw7696488724909661519 : True := trivial
theorem law_holds.tw15162217921772873613 : True := trivial
theorem law_holds.tw17237755526102222789 : True := trivial
theorem law_holds.tw1341266762083198811 : True := trivial
theorem law_holds.tw10465528174321978529 : True := trivial
theorem law_holds.tw15609566024721092083 : True := trivial
theorem law_holds.tw3366817510852727610 : True := trivial
theorem law_holds.tw6911747868599837429 : True := trivial
theorem law_holds.tw1819975233463548508 : True := trivial
theorem law_holds.tw14051398506283589457 : True := trivial
theorem law_holds.tw11924911360389889469 : True := trivial
theorem law_holds.tw4439653461905209652 : True := trivial
theorem law_holds.tw14904137174637212347 : True := trivial
theorem law_holds.tw9168033884955339765 : True := trivial
theorem law_holds.tw445335354869643106 : True := trivial
theorem law_holds.tw6934448944433832347 : True := trivial
theorem law_holds.tw14822640431511872941 : True := trivial
theorem law_holds.tw9843604407834444796 : True := trivial
theorem law_holds.tw5112083995522966620 : True := trivial
theorem law_holds.tw3850404396616230974 : True := trivial
theorem law_holds.tw11609493526922420660 : True := trivial
theorem law_holds.tw16760957895259694429 : True := trivial
theorem law_holds.tw8720880381367431298 : True := trivial
theorem law_holds.tw16978406815995349258 : True := trivial
theorem law_holds.tw14498155544194170393 : True := trivial
theorem law_holds.tw3756957479349018193 : True := trivial
theorem law_holds.tw16273140198857503625 : True := trivial
theorem law_holds.tw6667284449218939238 : True := trivial
theorem law_holds.tw15607887362523206001 : True := trivial
theorem law_holds.tw602461330855297101 : True := trivial
theorem law_holds.tw4323815956820902445 : True := trivial
theorem law_holds.tw9529696498207198238 : True := trivial
theorem law_holds.tw1035469204868569938 : True := trivial
theorem law_holds.tw6860709855171689206 : True := trivial
theorem law_holds.tw12626328134170644701 : True := trivial
theorem law_holds.tw3850334171643177529 : True := trivial
theorem law_holds.tw16563099163409725306 : True := trivial
theorem law_holds.tw1989176631692091739 : True := trivial
theorem law_holds.tw745255978533919091 : True := trivial
theorem law_holds.tw11846676642670509255 : True := trivial
theorem law_holds.tw18090433342136740992 : True := trivial
theorem law_holds.tw14596297492920191028 : True := trivial
theorem law_holds.tw16805829885119392726 : True := trivial
theorem law_holds.tw16461882675039125421 : True := trivial
theorem law_holds.tw6564709946809587534 : True := trivial
theorem law_holds.tw9255152265573255198 : True := trivial
theorem law_holds.tw15191720212996534143 : True := trivial
theorem law_holds.tw7221428835167493151 : True := trivial
theorem law_holds.tw3776956092104397036 : True := trivial
theorem law_holds.tw11966672015165255308 : True := trivial
theorem law_holds.tw699380112222796084 : True := trivial
theorem law_holds.tw14991590004735058009 : True := trivial
theorem law_holds.tw2907507879108658156 : True := trivial
theorem law_holds.tw3882201998751590657 : True := trivial
theorem law_holds.tw11404014056486942332 : True := trivial
theorem law_holds.tw13280740594461564331 : True := trivial
theorem law_holds.tw10188763426450519768 : True := trivial
theorem law_holds.tw3910120701321347557 : True := trivial
theorem law_holds.tw3742325753681652743 : True := trivial
theorem law_holds.tw17027635718292003107 : True := trivial
theorem law_holds.tw18254337876149969668 : True := trivial
theorem law_holds.tw7820799176418779761 : True := trivial
theorem law_holds.tw18203989763732354715 : True := trivial
theorem law_holds.tw9849722394096787677 : True := trivial
theorem law_holds.tw10371022188087798493 : True := trivial
theorem law_holds.tw7910590604623066228 : True := trivial
theorem law_holds.tw576407869801174206 : True := trivial
theorem law_holds.tw4889031023730116350 : True := trivial
theorem law_holds.tw784011647948385275 : True := trivial
theorem law_holds.tw10817052189556005596 : True := trivial
theorem law_holds.tw5731563423909890137 : True := trivial
theorem law_holds.tw14385925486924208373 : True := trivial
theorem law_holds.tw4273555757443719353 : True := trivial
theorem law_holds.tw8652346329174877282 : True := trivial
theorem law_holds.tw11677100312832694166 : True := trivial
theorem law_holds.tw8266603773606604290 : True := trivial
theorem law_holds.tw2842810181116790245 : True := trivial
theorem law_holds.tw10958410103948607464 : True := trivial
theorem law_holds.tw3253568177066640346 : True := trivial
theorem law_holds.tw14872900085578418628 : True := trivial
theorem law_holds.tw12116493165278983582 : True := trivial
theorem law_holds.tw15274831704391544125 : True := trivial
theorem law_holds.tw9552830710289189752 : True := trivial
theorem law_holds.tw2043166853727251185 : True := trivial
theorem law_holds.tw6499956759230125245 : True := trivial
theorem law_holds.tw676263390381983339 : True := trivial
theorem law_holds.tw17255088995462705879 : True := trivial
theorem law_holds.tw8514742172934523775 : True := trivial
theorem law_holds.tw3438298445031660282 : True := trivial
theorem law_holds.tw2503670479209048990 : True := trivial
theorem law_holds.tw4614512636035447770 : True := trivial
theorem law_holds.tw12889673554181485818 : True := trivial
theorem law_holds.tw4992725456586698614 : True := trivial
theorem law_holds.tw17993387198741990920 : True := trivial
theorem law_holds.tw3253820488102484341 : True := trivial
theorem law_holds.tw11182679623053108816 : True := trivial
theorem law_holds.tw12476058986133298565 : True := trivial
theorem law_holds.tw5920216800500632969 : True := trivial
theorem law_holds.tw13028658284911697911 : True := trivial
theorem law_holds.tw10007947361888340627 : True := trivial
theorem law_holds.tw7185456241796803578 : True := trivial
theorem law_holds.tw18326849912455186884 : True := trivial
theorem law_holds.tw14828999820898988419 : True := trivial
theorem law_holds.tw14988988175077273356 : True := trivial
theorem law_holds.tw10566571302883470556 : True := trivial
theorem law_holds.tw1762888911704233025 : True := trivial
theorem law_holds.tw9288214680346807717 : True := trivial
theorem law_holds.tw4030767218360268280 : True := trivial
theorem law_holds.tw15352839923633478061 : True := trivial
theorem law_holds.tw15883345262158282383 : True := trivial
theorem law_holds.tw4581845663705801772 : True := trivial
theorem law_holds.tw13301187468288870568 : True := trivial
theorem law_holds.tw2124134355350193313 : True := trivial
theorem law_holds.tw123295346585929383 : True := trivial
theorem law_holds.tw3158129796062787159 : True := trivial
theorem law_holds.tw2558664710541493025 : True := trivial
theorem law_holds.tw13780023080261437657 : True := trivial
theorem law_holds.tw14335913921861858828 : True := trivial
theorem law_holds.tw8957123355933967898 : True := trivial
theorem law_holds.tw15150646450996357022 : True := trivial
theorem law_holds.tw13397297893571687751 : True := trivial
theorem law_holds.tw9992725586745946429 : True := trivial
theorem law_holds.tw10242277825702978295 : True := trivial
theorem law_holds.tw8763168800255643514 : True := trivial
theorem law_holds.tw455179833554555240 : True := trivial
theorem law_holds.tw15014403891855920072 : True := trivial
theorem law_holds.tw17854113627312633794 : True := trivial
theorem law_holds.tw8249079356659094474 : True := trivial
theorem law_holds.tw16614716721108272449 : True := trivial
theorem law_holds.tw13250372474279835810 : True := trivial
theorem law_holds.tw10876394233666535175 : True := trivial
theorem law_holds.tw13402424001964919149 : True := trivial
theorem law_holds.tw8785698371604719795 : True := trivial
theorem law_holds.tw15617896438947887921 : True := trivial
theorem law_holds.tw14545874151571354728 : True := trivial
theorem law_holds.tw8549365171731915398 : True := trivial
theorem law_holds.tw13800757232730249582 : True := trivial
theorem law_holds.tw3956099054510807996 : True := trivial
theorem law_holds.tw447027507633508388 : True := trivial
theorem law_holds.tw17713402740875732926 : True := trivial
theorem law_holds.tw18006792725990754497 : True := trivial
theorem law_holds.tw6159533029260741167 : True := trivial
theorem law_holds.tw14160533322030094474 : True := trivial
theorem law_holds.tw8441880690091102137 : True := trivial
theorem law_holds.tw16883458599210261866 : True := trivial
theorem law_holds.tw1622690429015379626 : True := trivial
theorem law_holds.tw5640673133297012132 : True := trivial
theorem law_holds.tw11803358882649189518 : True := trivial
theorem law_holds.tw7356724547972884604 : True := trivial
theorem law_holds.tw7636989558263936852 : True := trivial
theorem law_holds.tw12303009252429188658 : True := trivial
theorem law_holds.tw10368410895845634921 : True := trivial
theorem law_holds.tw15527639110640922598 : True := trivial
theorem law_holds.tw1905533677188600702 : True := trivial
theorem law_holds.tw18261290160731607033 : True := trivial
theorem law_holds.tw9423440377400516374 : True := trivial
theorem law_holds.tw2102315897755806987 : True := trivial
theorem law_holds.tw4781243967656130014 : True := trivial
theorem law_holds.tw6723812968561706957 : True := trivial
theorem law_holds.tw9207643191828677137 : True := trivial
theorem law_holds.tw15544829507116839252 : True := trivial
theorem law_holds.tw14571795756577361901 : True := trivial
theorem law_holds.tw10264638600885302300 : True := trivial
theorem law_holds.tw13220211186989608806 : True := trivial
theorem law_holds.tw7019463264422422977 : True := trivial
theorem law_holds.tw1285599515219305098 : True := trivial
theorem law_holds.tw4370086069003782432 : True := trivial
theorem law_holds.tw4916342969005030805 : True := trivial
theorem law_holds.tw2006301483956418059 : True := trivial
theorem law_holds.tw3756308257209627903 : True := trivial
theorem law_holds.tw9779807473162285230 : True := trivial
theorem law_holds.tw14925382992726071281 : True := trivial
theorem law_holds.tw11100686419730198450 : True := trivial
theorem law_holds.tw13431030151845061361 : True := trivial
theorem law_holds.tw15806970514647361693 : True := trivial
theorem law_holds.tw12342728606916771844 : True := trivial
theorem law_holds.tw15448297888555860652 : True := trivial
theorem law_holds.tw11764581739189218997 : True := trivial
theorem law_holds.tw302768837105346163 : True := trivial
theorem law_holds.tw9184033795430018204 : True := trivial
theorem law_holds.tw15154110283740273250 : True := trivial
theorem law_holds.tw6317479115527610633 : True := trivial
theorem law_holds.tw1385162719727133579 : True := trivial
theorem law_holds.tw7497986649931050792 : True := trivial
theorem law_holds.tw1414043511812021011 : True := trivial
theorem law_holds.tw6869992995446874880 : True := trivial
theorem law_holds.tw11781800970755023335 : True := trivial
theorem law_holds.tw2643271747718453845 : True := trivial
theorem law_holds.tw3186734533307500241 : True := trivial
theorem law_holds.tw4818577856007422655 : True := trivial
theorem law_holds.tw7304591109411159013 : True := trivial
theorem law_holds.tw10841264019214440115 : True := trivial
theorem law_holds.tw11223184984439025696 : True := trivial
theorem law_holds.tw8176227357466254829 : True := trivial
theorem law_holds.tw3912811242725288453 : True := trivial
theorem law_holds.tw6765152471904792315 : True := trivial
theorem law_holds.tw4524032621918665186 : True := trivial
theorem law_holds.tw18340598423539479173 : True := trivial
theorem law_holds.tw11097350217990362986 : True := trivial
theorem law_holds.tw2618386414584295968 : True := trivial
theorem law_holds.tw12134408205421670959 : True := trivial
theorem law_holds.tw9606376775287448836 : True := trivial
theorem law_holds.tw10028117763298573888 : True := trivial
theorem law_holds.tw16099233806120587224 : True := trivial
theorem law_holds.tw17180001009569633970 : True := trivial
theorem law_holds.tw179590077315354965 : True := trivial
theorem law_holds.tw4037582482628031876 : True := trivial
theorem law_holds.tw8285764192309689115 : True := trivial
theorem law_holds.tw15661869461025623997 : True := trivial
theorem law_holds.tw5212653520564569363 : True := trivial
theorem law_holds.tw16893121556090616931 : True := trivial
theorem law_holds.tw14289194402921355359 : True := trivial
theorem law_holds.tw6507877686720480950 : True := trivial
theorem law_holds.tw12419048959643632839 : True := trivial
theorem law_holds.tw15829985883664642994 : True := trivial
theorem law_holds.tw16381176275627223697 : True := trivial
theorem law_holds.tw11097158420108258118 : True := trivial
theorem law_holds.tw12296726922439171297 : True := trivial
theorem law_holds.tw11544315989524547432 : True := trivial
theorem law_holds.tw10296202853966499060 : True := trivial
theorem law_holds.tw5274592661964301406 : True := trivial
theorem law_holds.tw17974257514489008736 : True := trivial
theorem law_holds.tw1767730674963353768 : True := trivial
theorem law_holds.tw2055734563569237896 : True := trivial
theorem law_holds.tw10609929442622069884 : True := trivial
theorem law_holds.tw6861490101519172755 : True := trivial
theorem law_holds.tw13882729330811710610 : True := trivial
theorem law_holds.tw17253691774821329096 : True := trivial
theorem law_holds.tw6709271908398517637 : True := trivial
theorem law_holds.tw13478230802861573701 : True := trivial
theorem law_holds.tw2322801206320994539 : True := trivial
theorem law_holds.tw8854015012368427407 : True := trivial
theorem law_holds.tw9875236377963488844 : True := trivial
theorem law_holds.tw8857742495270377987 : True := trivial
theorem law_holds.tw1928719863018725356 : True := trivial
theorem law_holds.tw8330938851228082562 : True := trivial
theorem law_holds.tw2856731137302751260 : True := trivial
theorem law_holds.tw17942709131360195518 : True := trivial
theorem law_holds.tw12835091436910803158 : True := trivial
theorem law_holds.tw8666519363043736892 : True := trivial
theorem law_holds.tw14883556706271630602 : True := trivial
theorem law_holds.tw3943428198234077543 : True := trivial
theorem law_holds.tw8191475993861738794 : True := trivial
theorem law_holds.tw16406091861079842607 : True := trivial
theorem law_holds.tw10024239376800412576 : True := trivial
theorem law_holds.tw13182730311906835528 : True := trivial
theorem law_holds.tw12223724995276690173 : True := trivial
theorem law_holds.tw1689763614830377041 : True := trivial
theorem law_holds.tw3850375180904979519 : True := trivial
theorem law_holds.tw13392613628428298086 : True := trivial
theorem law_holds.tw14983226153234331074 : True := trivial
theorem law_holds.tw18269650602155537469 : True := trivial
theorem law_holds.tw2136269947727277649 : True := trivial
theorem law_holds.tw14497384708736915567 : True := trivial
theorem law_holds.tw14390095281932903014 : True := trivial
theorem law_holds.tw16098122237329998606 : True := trivial
theorem law_holds.tw12459966957829302596 : True := trivial
theorem law_holds.tw10666784280354678857 : True := trivial
theorem law_holds.tw14774650325386425613 : True := trivial
theorem law_holds.tw4464252984393422682 : True := trivial
theorem law_holds.tw5506821171919863439 : True := trivial
theorem law_holds.tw498061464947678834 : True := trivial
theorem law_holds.tw3035144380315620824 : True := trivial
theorem law_holds.tw8984712037535005518 : True := trivial
theorem law_holds.tw7408322871517469003 : True := trivial
theorem law_holds.tw724200737284857819 : True := trivial
theorem law_holds.tw545109181885906688 : True := trivial
theorem law_holds.tw4441770287765753910 : True := trivial
theorem law_holds.tw3426384778480675251 : True := trivial
theorem law_holds.tw16836969012518115619 : True := trivial
theorem law_holds.tw12831907817818079685 : True := trivial
theorem law_holds.tw13709617746848070560 : True := trivial
theorem law_holds.tw12780804625047726367 : True := trivial
set_option Elab.async true in
theorem law_holds : PySem.Challenge.rw_og0158_01.Holds := by
  w_on; o_law; k_head; (case hw => w_witness2)
  k_go0
  k_unmd
  rename_i w s0 s1 mg mb G Y fa o pm doc ho hg KX0 X V GL T0 B TE TW w11 w10 M w9 w8 hcd ns hs hlay0 hL1 hr1 hl2 w6 w5 scr vs w2 hL ra w1 r0 hI hr h63 hcd2 K0 hD h₁ tk₁ F1 c2o c1o hd2 hd1 N1 X0
  have KX : (hd.heap_1 w.params).In s1.heap := KX0
  have T : Top hdV (looseW hdV [Str.ofString "PaperError"]) (ExcName.means s0.heap) mg mb s1.heap := T0
  refine law_post (s1 := s1) (L := s1.heap.objs.size) ?_ (GoodW PySem.Challenge.rw_og0158_01.row.claim (classAt s0.heap) (ExcName.means s0.heap) [ofPy (PyData.list (List.map PyData.int ns))] s1) (fun h' tk m' F => goodW_bool F hg (fun _ => rfl) (by with_unfolding_all rfl)) (fun _ _ h => h)
  intro R ret
  obtain ⟨v2, hc2⟩ : ∃ v, c2o.data = .cell v := ⟨_, hd2⟩
  obtain ⟨v1, hc1⟩ : ∃ v, c1o.data = .cell v := ⟨_, hd1⟩
  have F1 : Fr s1.heap s1.heap.objs.size h₁ (fun y => if y = Str.ofString "script" then some (.ref scr) else none) := F1
  rename_i F0
  clear F0
  generalize ExcName.means s0.heap = mean at T
  clear KX0 T0 X0 hd1 hd2 hD K0 hcd2 hr r0 w1 ra hl2 hr1 hL1 hlay0 hs hcd M TW TE B GL V X ho Y G
  generalize s1.heap.objs.size = L at *
  k_unmd
  k_fold
  k_steps
  refine Halt.mk (pen_K F1 N1 KX T hL hI (by omega) (by decide) (by decide) ?_)
  intro D i0 t0 u0 h1 tk1 F2 N2 hpD hi0
  simp only [List.cons_append, List.nil_append] at N2
  k_steps
  rename Fr _ _ _ _ => F3
  rename News _ _ _ _ => N3
  refine Halt.mk (obj_K (nn := 3) obj_spec3 F3 N3 KX T (by ktr_unf) (by ktr_units) (by decide) hi0 (by decide) (by decide) (by decide) (by decide) ?_)
  intro val x i1 j1 t1 u1 k1 tlv h2 tk2 F4 N4 hvD hvf hi1 hj1 hj1' hx hht hsz
  simp only [List.cons_append, List.nil_append] at N4
  k_steps
  rename Fr _ _ _ _ => F5
  rename News _ _ _ _ => N5
  refine Halt.mk (told_K (n := 7) F5 N5 KX T hx (by tb_rel) (by omega) (by decide) (by decide) ?_)
  intro kept tlk h3 tk3 ok3 F6 N6 dk
  have hkD : ∀ p ∈ tlk, p.1 ≠ D := fun p hp => (ok3 p hp (D, penO i1 j1 t1 u1 k1) (by tb_start)).symm
  k_steps
  rename Fr _ _ _ _ => F7
  rename News _ _ _ _ => N7
  refine Halt.mk (table_K F7 N7 KX T (by ktr_unf) (by ktr_units) hi1 hj1 (Int.le_trans hj1' (by decide)) (by decide) (by decide) ?_)
  intro dA TA i2 j2 t2 u2 k2 tlA h4 tk4 F8 N8 hAD hAf hi2 hj2 hj2' hTA hnA hlA
  simp only [List.cons_append, List.nil_append, List.append_assoc] at N8
  k_steps
  rename Fr _ _ _ _ => F9
  rename News _ _ _ _ => N9
  refine Halt.mk (table_K F9 N9 KX T (by ktr_unf) (by ktr_units) hi2 hj2 (Int.le_trans hj2' (Int.le_trans (Int.add_le_add_right hj1' 30) (by decide))) (by decide) (by decide) ?_)
  intro dB TB i3 j3 t3 u3 k3 tlB h5 tk5 F10 N10 hBD hBf hi3 hj3 hj3' hTB hnB hlB
  simp only [List.cons_append, List.nil_append, List.append_assoc] at N10
  k_steps
  rename Fr _ _ _ _ => F11
  rename News _ _ _ _ => N11
  have far : ∀ p ∈ tlB ++ (tlA ++ (tlk ++ tlv)), p.1 ≠ L + 1 ∧ p.1 ≠ L + 1 + 1 := by
    intro p hp
    rcases List.mem_append.mp hp with hp | hp
    · exact ⟨(hBf p hp (L + 1, c1o) (by tb_start)).symm, (hBf p hp (L + 1 + 1, c2o) (by tb_start)).symm⟩
    rcases List.mem_append.mp hp with hp | hp
    · exact ⟨(hAf p hp (L + 1, c1o) (by tb_start)).symm, (hAf p hp (L + 1 + 1, c2o) (by tb_start)).symm⟩
    rcases List.mem_append.mp hp with hp | hp
    · exact ⟨(ok3 p hp (L + 1, c1o) (by tb_start)).symm, (ok3 p hp (L + 1 + 1, c2o) (by tb_start)).symm⟩
    · exact ⟨(hvf p hp (L + 1, c1o) (by tb_start)).symm, (hvf p hp (L + 1 + 1, c2o) (by tb_start)).symm⟩
  refine store_c (c := L + 1) (keep := (L + 1 + 1, c2o) :: (tlB ++ (tlA ++ (tlk ++ tlv)))) F11 N11 rfl (by tb_start) hc1 ?_ ?_ rfl rfl
  · intro p hp
    rcases List.mem_cons.mp hp with rfl | hp
    · exact ⟨by tb_start, Nat.ne_of_gt (Nat.lt_succ_self _)⟩
    · exact ⟨(by tb_rel : ∀ p ∈ tlB ++ (tlA ++ (tlk ++ tlv)), p ∈ _ :: (tlB ++ (tlA ++ (tlk ++ (tlv ++ [(L + 1 + 1, c2o), (L + 1, c1o), (D, penO i3 j3 t3 u3 k3)]))))) p hp, (far p hp).1⟩
  intro h6 ob1 F12 N12 hb1
  k_steps
  rename Fr _ _ _ _ => F13
  rename News _ _ _ _ => N13
  refine store_c (c := L + 1 + 1) (keep := (L + 1, ob1) :: (tlB ++ (tlA ++ (tlk ++ tlv)))) F13 N13 rfl (by tb_start) hc2 ?_ ?_ rfl rfl
  · intro p hp
    rcases List.mem_cons.mp hp with rfl | hp
    · exact ⟨.head _, Nat.ne_of_lt (Nat.lt_succ_self _)⟩
    · exact ⟨.tail _ (.tail _ hp), (far p hp).2⟩
  intro h7 ob2 F14 N14 hb2
  have hx' := hx.mono (S' := tlB ++ (tlA ++ (tlk ++ tlv))) (by tb_rel)
  have dk' := dk.mono (news' := tlB ++ (tlA ++ (tlk ++ tlv))) (by tb_rel)
  have hTA' := hTA.mono (S' := tlB ++ (tlA ++ (tlk ++ tlv))) (by tb_rel)
  have hTB' := hTB.mono (S' := tlB ++ (tlA ++ (tlk ++ tlv))) (by tb_rel)
  clear hx dk hTA hTB
  generalize tlB ++ (tlA ++ (tlk ++ tlv)) = S at *
  clear F13 N13 F11 N11
  k_steps
  rename Fr _ _ _ _ => F15
  rename News _ _ _ _ => N15
  clear hBf hAf ok3 hvf far hpD hvD hkD hAD hBD
  obtain ⟨loA, oA, xsA, hmA, PA, RA⟩ := id hTA'
  obtain ⟨loB, oB, xsB, hmB, PB, RB⟩ := id hTB'
  have hxA := RA.length
  have hnxA : (xsA.map (·.1)).Nodup := PA.2.choose_spec.choose_spec.2.2.1
  have hkA : ∀ y ∈ xsA, ∃ ok, (y.2.1, ok) ∈ S ∧ TupKeyObj (PySem.intKind PySem.Challenge.rw_og0158_01.row.prog w) y.1 ok := PA.2.choose_spec.choose_spec.2.2.2
  refine compP (fun i ys tl => RowsIn PySem.Challenge.rw_og0158_01.row.prog w (tl ++ S) ys (thru (TA.take i) TB)) (src_pairs rfl loA N15 (by tb_start) PA) ?_ ⟨KX, _, _, _, T⟩ F15 N15 (hss_one (by tb_start)) .nil ?_ ?_
  · rw [sizeLine_eq]; omega
  · rintro C i v ys tl s₃ m₃ g₃ E' hi ⟨xr, hxi, rfl⟩ hJ ho X₃ F₃ N₃ hm₃
    obtain ⟨K₃, mean₃, mg₃, mb₃, T₃⟩ := X₃
    obtain ⟨x1, y1, i1, j1, ka, b, t, u, n, rfl, hTi, hmb⟩ := RA.at hxi
    obtain ⟨ok, hmk, htk⟩ := hkA _ (List.mem_of_getElem? hxi)
    dsimp only at hm₃ hmk htk
    have hat := atKey_at hnxA hxi
    refine wpAny_tests_one ?_
    k_steps
    refine Halt.mk (item_pairI (by simp only [units_deeper]; decide) N₃ (by tb_start) PA (by tb_rel) (by tb_start) htk hat ?_)
    intro tk9
    k_steps
    refine Halt.mk (in_pair (by simp only [units_deeper]; decide) N₃ loB (by tb_start) PB (by tb_rel) (by tb_start) ?_)
    intro tk10
    refine wpAny_truthy_bool ?_
    refine ⟨⟨_, rfl⟩, fun e => ?_, fun e => ?_⟩
    · rcases RB.get i1 j1 with ⟨e1, e2⟩ | ⟨i', j', kb, b2, tb, ub, nb, e1, e2, hmb2⟩
      · rw [e2] at e; cases e
      k_steps
      refine Halt.mk (item_pairI (by simp only [units_deeper]; decide) N₃ (by tb_start) PA (by tb_rel) (by tb_start) htk hat ?_)
      intro tk11
      k_steps
      refine Halt.mk (item_pair (by simp only [units_deeper]; decide) N₃ (by tb_start) PB (by tb_rel) (by tb_start) e2 ?_)
      intro tk12
      (try dsimp only)
      k_steps
      rename Fr _ _ _ _ => F5
      rename News _ _ _ _ => N5
      refine ⟨_, _, [(_, _)], _, rfl, F5, N5, ?_, ?_⟩
      · exact Off.top (by first | assumption | exact allLt_0 (by assumption)) (by tb_rel) Off.nil
      · rw [thru_snoc TA TB hTi]
        simp only [e1]
        exact (hJ.mono (by tb_rel)).snoc (n := 0) (.head _) (by tb_start) htk (by tb_start)
    · rcases RB.get i1 j1 with ⟨e1, e2⟩ | ⟨i', j', kb, b2, tb, ub, nb, e1, e2, hmb2⟩
      · rw [thru_snoc TA TB hTi]
        simp only [e1, List.append_nil]
        exact hJ
      · rw [e2] at e; cases e
  intro D5 h8 tk8 ys tlT e F16 N16 ho16 ho17 hD16 hJ hy
  rw [List.take_of_length_le (by omega)] at hJ
  k_steps
  refine dict_rows rfl (by simp only [units_deeper]; decide) F16 N16 (.head _) (hJ.mono (by tb_rel)) (hnA.sublist (thru_keys TA TB)) (by have := thru_len TA TB; omega) (modules_low T.nolimit) ?_
  intro dC h9 oC xC tk9 loC F17 N17 lC PC RC
  obtain ⟨B1, hB1, N18⟩ := abs_led N17
  have hx1 : TrIn w B1 val x := hx'.mono (by rw [hB1]; tb_rel)
  have dk1 : DatIn B1 kept (toldD x) := dk'.mono (by rw [hB1]; tb_rel)
  have hA1 : TabIn PySem.Challenge.rw_og0158_01.row.prog w B1 dA TA := hTA'.mono (by rw [hB1]; tb_rel)
  have hT1 : TabIn PySem.Challenge.rw_og0158_01.row.prog w B1 dB TB := hTB'.mono (by rw [hB1]; tb_rel)
  have hC1 : TabIn PySem.Challenge.rw_og0158_01.row.prog w B1 dC (thru TA TB) := ⟨loC, oC, xC, by rw [hB1]; exact .head _, PC.mono (by rw [hB1]; tb_rel), RC.mono (by rw [hB1]; tb_rel)⟩
  have m11 : (L + 1, ob1) ∈ B1 := by rw [hB1]; tb_start
  have m21 : (L + 1 + 1, ob2) ∈ B1 := by rw [hB1]; tb_start
  clear hB1 N17 PC RC lC N16 F16 ho16 ho17 hD16 hJ hy hx' dk' hTA' hTB' PA RA PB RB hkA hnxA hxA hmA hmB N15 F15
  k_steps
  rename Fr _ _ _ _ => F20
  rename News _ _ _ _ => N20
  refine Halt.mk (ren_N F20 N20 KX T hx1 (by tb_rel) hA1 (by tb_rel) hht (by decide) (by decide) ?_)
  intro r1 tl1 h10 tk10 o1 F21 N21 hr1
  have hh1 := Nat.le_trans (ht_ren TA x) hht
  k_steps
  rename Fr _ _ _ _ => F22
  rename News _ _ _ _ => N22
  refine Halt.mk (ren_N F22 N22 KX T hr1 (by tb_rel) hT1 (by tb_rel) hh1 (by decide) (by decide) ?_)
  intro r2 tl2 h11 tk11 o2 F23 N23 hr2
  have hh2 := Nat.le_trans (ht_ren TB (renT TA x)) hh1
  k_steps
  rename Fr _ _ _ _ => F24
  rename News _ _ _ _ => N24
  refine Halt.mk (told_N F24 N24 KX T hr2 (by tb_rel) hh2 (by decide) (by decide) ?_)
  intro q1 tl3 h12 tk12 o3 F25 N25 hq1
  k_steps
  rename Fr _ _ _ _ => F26
  rename News _ _ _ _ => N26
  refine Halt.mk (ren_N F26 N26 KX T hx1 (by tb_rel) hC1 (by tb_rel) hht (by decide) (by decide) ?_)
  intro r3 tl4 h13 tk13 o4 F27 N27 hr3
  have hh3 := Nat.le_trans (ht_ren (thru TA TB) x) hht
  k_steps
  rename Fr _ _ _ _ => F28
  rename News _ _ _ _ => N28
  refine Halt.mk (told_N F28 N28 KX T hr3 (by tb_rel) hh3 (by decide) (by decide) ?_)
  intro q2 tl5 h14 tk14 o5 F29 N29 hq2
  k_steps
  rename News _ _ _ _ => N30
  obtain ⟨ds1, e1, e2, e3⟩ := told_ne (congrArg toldD (ren_ren (T2 := TB) hnA x)) hh2
  rw [e1] at hq1
  rw [e2] at hq2
  obtain ⟨B2, hB2, N31⟩ := abs_led N30
  refine Halt.mk (ne_told (S := B2) (stands_of N31 fun _ h => h) (by simp only [units_deeper]; exact Nat.lt_of_le_of_lt (Nat.add_le_add_left (Nat.succ_le_succ e3) _) (by decide)) (hq1.mono (by rw [hB2]; tb_rel)) (hq2.mono (by rw [hB2]; tb_rel)) ?_)
  have hx2 : TrIn w B2 val x := hx1.mono (by rw [hB2]; tb_rel)
  have dk2 : DatIn B2 kept (toldD x) := dk1.mono (by rw [hB2]; tb_rel)
  have hA2 : TabIn PySem.Challenge.rw_og0158_01.row.prog w B2 dA TA := hA1.mono (by rw [hB2]; tb_rel)
  have m12 : (L + 1, ob1) ∈ B2 := by rw [hB2]; tb_start
  have m22 : (L + 1 + 1, ob2) ∈ B2 := by rw [hB2]; tb_start
  rename Fr _ _ _ _ => F31
  clear hB2 N30 N28 N26 N24 N22 N20 F20 F22 F24 F26 F28 o1 o2 o3 o4 o5 hq1 hq2 e1 e2 e3 hr1 hr2 hr3 hx1 dk1 hA1 hT1 hC1 m11 m21
  k_steps
  rename Fr _ _ _ _ => F40
  have hs100 : szT x ≤ 100 := Nat.le_trans hsz (by decide)
  have hrl := refsD_len x
  refine Halt.mk (refs_N F40 N31 KX T hx2 (by tb_rel) hs100 (by decide) (by decide) ?_)
  intro D6 vs6 n6 tl6 h15 tk15 o6 F41 N41 hm6 hP6
  have hl6 := hP6.length
  k_steps
  refine compPN (fun B i ys tl => RowsIn PySem.Challenge.rw_og0158_01.row.prog w (tl ++ B) ys (stayT ((ddp [] (refsT x)).take i))) (src_list rfl (N41.isList (by tb_start))) ?_ ⟨KX, _, _, _, T⟩ F41 N41 (hss_one (by tb_start)) .nil ?_ ?_
  · rw [sizeLine_eq]; omega
  · intro C i v ys tl s₃ m₃ g₃ E' hi hv hJ ho X₃ F₃ N₃ hm₃
    obtain ⟨K₃, mean₃, mg₃, mb₃, T₃⟩ := X₃
    obtain ⟨a, x1, y1, t, u, n, rfl, hmem, hpi⟩ := hP6.at hv
    refine wpAny_tests_nil ⟨⟨_, rfl⟩, fun _ => ?_, fun e => nomatch e⟩
    k_steps
    rename Fr _ _ _ _ => F5
    rename News _ _ _ _ => N5
    refine ⟨_, _, [(_, _)], _, rfl, F5, N5, ?_, ?_⟩
    · exact Off.top (by first | assumption | exact allLt_0 (by assumption)) (by tb_rel) Off.nil
    · rw [stayT_snoc _ hpi]
      exact (hJ.mono (by tb_rel)).snoc (n := 0) (.head _) ((by tb_rel : ∀ p ∈ tl6 ++ B2, p ∈ _) _ hmem) (pairKey _ _ _ _ _ _ _) ((by tb_rel : ∀ p ∈ tl6 ++ B2, p ∈ _) _ hmem)
  intro D7 h16 tk16 ys tlS e F42 N42 ho42 ho43 hD42 hJ hy
  rw [List.take_of_length_le (by omega)] at hJ
  k_steps
  refine dict_rows rfl (by simp only [units_deeper]; decide) F42 N42 (.head _) (hJ.mono (by tb_rel)) (by rw [stayT_keys]; exact ddp_nodup _ _ List.nodup_nil) (by unfold stayT; rw [List.length_map]; omega) (modules_low T.nolimit) ?_
  intro dS h17 oS xS tk17 loS F43 N43 lS PS RS
  obtain ⟨B3, hB3, N44⟩ := abs_led N43
  have hx3 : TrIn w B3 val x := hx2.mono (by rw [hB3]; tb_rel)
  have dk3 : DatIn B3 kept (toldD x) := dk2.mono (by rw [hB3]; tb_rel)
  have hA3 : TabIn PySem.Challenge.rw_og0158_01.row.prog w B3 dA TA := hA2.mono (by rw [hB3]; tb_rel)
  have hS3 : TabIn PySem.Challenge.rw_og0158_01.row.prog w B3 dS (stayT (ddp [] (refsT x))) := ⟨loS, oS, xS, by rw [hB3]; exact .head _, PS.mono (by rw [hB3]; tb_rel), RS.mono (by rw [hB3]; tb_rel)⟩
  have m13 : (L + 1, ob1) ∈ B3 := by rw [hB3]; tb_start
  have m23 : (L + 1 + 1, ob2) ∈ B3 := by rw [hB3]; tb_start
  clear hB3 N43 PS RS lS N42 F42 ho42 ho43 hD42 hJ hy hx2 dk2 hA2 m12 m22 N41 F41 hm6 hP6 hl6 o6 N31 F40
  k_steps
  rename Fr _ _ _ _ => F50
  rename News _ _ _ _ => N50
  refine Halt.mk (ren_N F50 N50 KX T hx3 (by tb_rel) hS3 (by tb_rel) hht (by decide) (by decide) ?_)
  intro r5 tl7 h18 tk18 o7 F51 N51 hr5
  have hh5 := Nat.le_trans (ht_ren (stayT (ddp [] (refsT x))) x) hht
  k_steps
  rename Fr _ _ _ _ => F52
  rename News _ _ _ _ => N52
  refine Halt.mk (told_N F52 N52 KX T hr5 (by tb_rel) hh5 (by decide) (by decide) ?_)
  intro q5 tl8 h19 tk19 o8 F53 N53 hq5
  obtain ⟨ak, rfl⟩ := told_ref dk3
  k_steps
  rename News _ _ _ _ => N54
  obtain ⟨ds5, e1, e2, e3⟩ := told_ne (told_stays x) hh5
  rw [e1] at hq5
  have dk3' := dk3
  rw [e2] at dk3'
  obtain ⟨B4, hB4, N55⟩ := abs_led N54
  refine Halt.mk (ne_told (S := B4) (stands_of N55 fun _ h => h) (by simp only [units_deeper]; exact Nat.lt_of_le_of_lt (Nat.add_le_add_left (Nat.succ_le_succ e3) _) (by decide)) (hq5.mono (by rw [hB4]; tb_rel)) (dk3'.mono (by rw [hB4]; tb_rel)) ?_)
  have hx4 : TrIn w B4 val x := hx3.mono (by rw [hB4]; tb_rel)
  have dk4 : DatIn B4 (.ref ak) (toldD x) := dk3.mono (by rw [hB4]; tb_rel)
  have hA4 : TabIn PySem.Challenge.rw_og0158_01.row.prog w B4 dA TA := hA3.mono (by rw [hB4]; tb_rel)
  have m14 : (L + 1, ob1) ∈ B4 := by rw [hB4]; tb_start
  have m24 : (L + 1 + 1, ob2) ∈ B4 := by rw [hB4]; tb_start
  rename Fr _ _ _ _ => F55
  clear hB4 N54 N52 N50 F50 F52 o7 o8 hq5 e1 e2 e3 dk3' hr5 hx3 dk3 hA3 hS3 m13 m23
  k_steps
  rename_i Dd hd1 ld hd2 F60 N60
  refine Halt.mk (For_F F60 rfl rfl ?_)
  k_steps
  refine Halt.mk (refs_K (S := B4) F60 N60 KX T hx4 (by tb_rel) (Nat.le_trans hs100 (by decide)) (by decide) (by decide) ?_)
  intro D8 vs8 n8 tl8 h20 tk20 o8 F61 N61 hm8 hP8
  have hl8 := hP8.length
  have hdB : ∀ p ∈ tl8 ++ B4, p.1 ≠ Dd := by
    intro p hp
    rcases List.mem_append.mp hp with hp | hp
    · exact (o8 p hp (Dd, listOf #[] 0) (.head _)).symm
    · exact Nat.ne_of_lt (ld p hp)
  k_steps
  refine Halt.mk (for_src (news := (Dd, listOf (List.toArray []) 0) :: (tl8 ++ B4)) (fun i m news => ∃ fs nf, news = (Dd, listOf (List.toArray fs) nf) :: (tl8 ++ B4) ∧ m (Str.ofString "due") = some (.ref Dd) ∧ m (Str.ofString "value") = some val ∧ m (Str.ofString "kept") = some (.ref ak) ∧ PairsIn (tl8 ++ B4) fs (ddp [] (((ddp [] (refsT x)).take i).filterMap (tget TA)))) [(D8, listOf (List.toArray vs8) n8)] (src_list rfl (N61.isList (by tb_start))) F61
    (fun p hp => N61 p ((by tb_rel : ∀ p ∈ (Dd, listOf #[] 0) :: (tl8 ++ B4), p ∈ tl8 ++ (Dd, listOf #[] 0) :: B4) p hp)) (hss_one (.head _)) ?_ ⟨[], 0, rfl, by ktr_room, by ktr_room, by ktr_room, .nil⟩ ?_ ?_)
  · rintro i m led ⟨fs, nf, rfl, _⟩ p hp
    rw [List.mem_singleton.mp hp]; exact .tail _ (List.mem_append_left _ hm8)
  · rintro i v m₁ news₁ h21 tk21 own hi hv ⟨fs, nf, rfl, e1, e2, e3, hfs⟩ ho F62 N62
    obtain ⟨a, x1, y1, t, u, n, rfl, hmem, hpi⟩ := hP8.at hv
    obtain ⟨loA, oA, xsA, hmA, PA, RA⟩ := id hA4
    have hsn := due_snoc TA hpi
    have hmN : (a, pairO x1 y1 t u n) ∈ own ++ ((Dd, listOf (List.toArray fs) nf) :: (tl8 ++ B4)) := by tb_start
    k_steps
    refine Halt.mk (in_pair (by simp only [units_deeper]; decide) N62 loA (by tb_start) PA (by tb_rel) hmN ?_)
    intro tk22
    rcases RA.get x1 y1 with ⟨e5, e6⟩ | ⟨i', j', ka, b, tb, ub, nb, e5, e6, hmb⟩
    · simp only [e6, Option.isSome_none]
      simp only [e5] at hsn
      k_steps
      rename Fr _ _ _ _ => F63
      rename News _ _ _ _ => N63
      exact ⟨_, _, _, _, rfl, F63, N63, ho, fs, nf, rfl, by ktr_room, by ktr_room, by ktr_room, by rw [hsn]; exact hfs⟩
    · simp only [e6, Option.isSome_some]
      simp only [e5] at hsn
      have hmb2 : (b, pairO i' j' tb ub nb) ∈ own ++ ((Dd, listOf (List.toArray fs) nf) :: (tl8 ++ B4)) := by tb_start
      k_steps
      refine Halt.mk (item_pair (by simp only [units_deeper]; decide) N62 (by tb_start) PA (by tb_rel) hmN e6 ?_)
      intro tk23
      (try dsimp only)
      k_steps
      refine Halt.mk (notin_pairs (by simp only [units_deeper]; decide) N62 (by tb_start) hfs (by tb_rel) hmb2 ?_)
      by_cases hq : (i', j') ∈ ddp [] (((ddp [] (refsT x)).take i).filterMap (tget TA))
      · simp only [hq, decide_true, Bool.not_true]
        rw [if_pos hq] at hsn
        k_steps
        rename Fr _ _ _ _ => F63
        rename News _ _ _ _ => N63
        exact ⟨_, _, _, _, rfl, F63, N63, ho, fs, nf, rfl, by ktr_room, by ktr_room, by ktr_room, by rw [hsn]; exact hfs⟩
      · simp only [hq, decide_false, Bool.not_false]
        rw [if_neg hq] at hsn
        have hlf := hfs.length
        have hld := ddp_len (((ddp [] (refsT x)).take i).filterMap (tget TA)) []
        have hlm := List.length_filterMap_le (tget TA) ((ddp [] (refsT x)).take i)
        rw [List.length_take] at hlm
        simp only [List.length_nil] at hld
        k_steps
        refine Halt.mk (item_pair (by simp only [units_deeper]; decide) N62 (by tb_start) PA (by tb_rel) hmN e6 ?_)
        intro tk24
        (try dsimp only)
        k_steps
        rename Fr _ _ _ _ => F63
        rename News _ _ _ _ => N63
        refine append_keep (keep := own ++ (tl8 ++ B4)) F63 N63 (by tb_start) ?_ (by rw [sizeLine_eq]; omega) ?_
        · intro p hp
          refine ⟨(by tb_rel : ∀ p ∈ own ++ (tl8 ++ B4), p ∈ own ++ ((Dd, listOf (List.toArray fs) nf) :: (tl8 ++ B4))) p hp, ?_⟩
          rcases List.mem_append.mp hp with hp | hp
          · exact ho _ (.head _) p hp
          · exact hdB p hp
        intro h25 F64 N64
        k_steps
        refine ⟨h25, _, _, (Dd, listOf (List.toArray (fs ++ [.ref b])) (nf + 1)) :: (tl8 ++ B4), rfl, F64, fun p hp => N64 p ((by tb_rel : ∀ p ∈ own ++ ((Dd, listOf (List.toArray (fs ++ [.ref b])) (nf + 1)) :: (tl8 ++ B4)), p ∈ (Dd, listOf (List.toArray (fs ++ [.ref b])) (nf + 1)) :: (own ++ (tl8 ++ B4))) p hp), ?_, fs ++ [.ref b], nf + 1, rfl, by ktr_room, by ktr_room, by ktr_room, by rw [hsn]; exact hfs.snoc (List.mem_append_right _ hmb)⟩
        intro p hp
        rcases List.mem_cons.mp hp with rfl | hp
        · exact ho (Dd, listOf (List.toArray fs) nf) (.head _)
        · exact ho p (.tail _ hp)
  rintro m₂ news₂ h22 tk22 ⟨fs, nf, rfl, e1, e2, e3, hfs⟩ F70 N70
  rw [List.take_of_length_le (by omega), ddp_due] at hfs
  k_steps
  rename Fr _ _ _ _ => F71
  rename News _ _ _ _ => N71
  refine Halt.mk (ren_N F71 N71 KX T hx4 (by tb_rel) hA4 (by tb_rel) hht (by decide) (by decide) ?_)
  intro r9 tl9 h23 tk23 o9 F72 N72 hr9
  have hz9 : szT (renT TA x) ≤ 100 := Nat.le_trans (size_ren TA x) hs100
  have hdep : ((dpT (renT TA x) : Nat) : Int) ≤ (dpT x : Int) := Int.ofNat_le.mpr (depth_ren TA x)
  k_steps
  rename Fr _ _ _ _ => F73
  rename News _ _ _ _ => N73
  refine Halt.mk (refs_N F73 N73 KX T hr9 (by tb_rel) hz9 (by decide) (by decide) ?_)
  intro DA vsA nA tlA h24 tk24 oA F74 N74 hmA hPA
  k_steps
  rename News _ _ _ _ => N75
  obtain ⟨B5, hB5, N76⟩ := abs_led N75
  refine Halt.mk (eq_lists (S := B5) (stands_of N76 fun _ h => h) (by simp only [units_deeper]; exact Nat.lt_of_le_of_lt (Nat.succ_le_succ (Nat.add_le_add_left (dpDs_pairs _) _)) (by decide)) (by rw [hB5]; tb_start) (by rw [hB5]; tb_start) (hPA.mono (by rw [hB5]; tb_rel)).dat (hfs.mono (by rw [hB5]; tb_rel)).dat ?_)
  k_steps
  rename Fr _ _ _ _ => F77
  refine Halt.mk (depth_K F77 N76 KX T hr9 (by rw [hB5]; tb_rel) (Nat.le_trans hz9 (by decide)) (by decide) (by decide) ?_)
  intro t30 h30 tk30 F78 N78
  k_steps
  rename Fr _ _ _ _ => F79
  rename News _ _ _ _ => N79
  refine Halt.mk (depth_K F79 N79 KX T hx4 (by rw [hB5]; tb_rel) (Nat.le_trans hs100 (by decide)) (by decide) (by decide) ?_)
  intro t31 h31 tk31 F80 N80
  k_steps
  rename Fr _ _ _ _ => F81
  rename News _ _ _ _ => N81
  refine Halt.mk (told_N F81 N81 KX T hx4 (by rw [hB5]; tb_rel) hht (by decide) (by decide) ?_)
  intro q9 tl10 h32 tk32 o10 F82 N82 hq9
  k_steps
  rename News _ _ _ _ => N83
  obtain ⟨dsE, e7, e8, e9⟩ := told_ne (x := x) (y := x) rfl hht
  rw [e7] at hq9 dk4
  have hkp : ∀ p ∈ B4, p ∈ tl10 ++ B5 := by rw [hB5]; tb_rel
  refine Halt.mk (eq_told (S := tl10 ++ B5) (stands_of N83 fun _ h => h) (by simp only [units_deeper]; exact Nat.lt_of_le_of_lt (Nat.succ_le_succ (Nat.add_le_add_left e9 _)) (by decide)) hq9 (dk4.mono hkp) ?_)
  k_steps
  rename Fr _ _ _ _ => F84
  exact ret _ _ _ F84
end
end Mine
theorem PySem.Challenge.cw_og0158_01_holds : PySem.Challenge.rw_og0158_01.Holds := by
  exact Mine.law_holds
