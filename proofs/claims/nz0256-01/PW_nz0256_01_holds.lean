import PyProof.Rows.All
import Wide.All
import OpenK.AllK
import Wide.FinOn
import Lean
import PySem.Challenge.RW_nz0256_01
open PySem PySem.W PySem.Calls PyProof.Rows
set_option Elab.async false
set_option maxRecDepth 100000
namespace Mine
/-! ### C1 -/
/-! ## values as trees -/
inductive AV where
  | val (v : Value)
  | int (i : Int)
  | str (x : Str)
  | list (l : List AV)
  | tup (l : List AV)
  | inst (C : Addr) (fs : List (Str × AV))
  | range (a b c : Int)

noncomputable abbrev Sub (G h : Heap) : Prop := ∀ b o, G.get? b = some o → h.get? b = some o
theorem Sub.refl (h : Heap) : Sub h h := fun _ _ e => e
theorem Sub.trans {a b c : Heap} (x : Sub a b) (y : Sub b c) : Sub a c := fun _ _ e => y _ _ (x _ _ e)

noncomputable def PlainTup (h : Heap) (a : Addr) (items : Array Value) : Prop := ∃ n, h.get? a = some { cls := .type "tuple", data := .seq items n }
theorem PlainTup.sub {h h' : Heap} {a : Addr} {its : Array Value} (x : PlainTup h a its) (k : Sub h h') : PlainTup h' a its := let ⟨n, e⟩ := x; ⟨n, k _ _ e⟩
theorem PlainTup.isTup {h : Heap} {a : Addr} {its : Array Value} (x : PlainTup h a its) : IsTup h a its := let ⟨n, e⟩ := x; ⟨_, e, rfl, n, rfl⟩

/-- in the settled part G of the heap the value v bears the tree y -/
inductive At (G : Heap) : Value → AV → Prop where
  | val (v) : At G v (.val v)
  | int (i t) : At G (.int i t) (.int i)
  | str (x t) : At G (.str x t) (.str x)
  | list {a : Addr} {vs : List Value} {l : List AV} (h : G.PlainList a vs.toArray) (hl : vs.length = l.length)
      (hi : ∀ (i : Nat) (v : Value) (y : AV), vs[i]? = some v → l[i]? = some y → At G v y) : At G (.ref a) (.list l)
  | tup {a : Addr} {vs : List Value} {l : List AV} (h : PlainTup G a vs.toArray) (hl : vs.length = l.length)
      (hi : ∀ (i : Nat) (v : Value) (y : AV), vs[i]? = some v → l[i]? = some y → At G v y) : At G (.ref a) (.tup l)
  | inst {a d C : Addr} {es : List DictEntry} {n : Nat} {fs : List (Str × AV)} (h : G.get? a = some (instObj C d)) (hd : G.get? d = some (dictOf es n))
      (hn : ∀ x, fs.lookup x = none → getL x es = some none) (hs : ∀ x y, fs.lookup x = some y → ∃ v, getL x es = some (some v))
      (hf : ∀ x y v, fs.lookup x = some y → getL x es = some (some v) → At G v y) : At G (.ref a) (.inst C fs)
  | range {r : Addr} {a b c : Int} {t u v : Tok} (h : IsRange G r a b c t u v) : At G (.ref r) (.range a b c)

theorem At.mono {G G' : Heap} {v : Value} {y : AV} (x : At G v y) (k : Sub G G') : At G' v y := by
  induction x with
  | val v => exact .val v
  | int i t => exact .int i t
  | str x t => exact .str x t
  | list h hl _ ih => exact .list (h.at fun o e => k _ o e) hl ih
  | tup h hl _ ih => exact .tup (h.sub k) hl ih
  | inst h hd hn hs _ ih => exact .inst (k _ _ h) (k _ _ hd) hn hs ih
  | range h => exact .range (k _ _ h)

/-- the items bear the trees, one by one -/
noncomputable def Its (G : Heap) (vs : List Value) (l : List AV) : Prop := vs.length = l.length ∧ ∀ (i : Nat) (v : Value) (y : AV), vs[i]? = some v → l[i]? = some y → At G v y
theorem Its.mono {G G' : Heap} {vs : List Value} {l : List AV} (x : Its G vs l) (k : Sub G G') : Its G' vs l := ⟨x.1, fun i v y a b => (x.2 i v y a b).mono k⟩
theorem Its.nil {G : Heap} : Its G [] [] := ⟨rfl, fun i v y a _ => by simp at a⟩
theorem Its.cons {G : Heap} {v : Value} {y : AV} {vs : List Value} {l : List AV} (a : At G v y) (x : Its G vs l) : Its G (v :: vs) (y :: l) := by
  refine ⟨by simp [x.1], fun i => ?_⟩
  cases i with
  | zero => intro v y e1 e2; simp at e1 e2; rw [← e1, ← e2]; exact a
  | succ i => intro v y e1 e2; exact x.2 i v y (by simpa using e1) (by simpa using e2)
theorem Its.head {G : Heap} {v : Value} {y : AV} {vs : List Value} {l : List AV} (x : Its G (v :: vs) (y :: l)) : At G v y := x.2 0 v y rfl rfl
theorem Its.tail {G : Heap} {v : Value} {y : AV} {vs : List Value} {l : List AV} (x : Its G (v :: vs) (y :: l)) : Its G vs l := ⟨by simpa using x.1, fun i v y a b => x.2 (i + 1) v y (by simpa using a) (by simpa using b)⟩
theorem Its.append {G : Heap} {vs us : List Value} {l k : List AV} (x : Its G vs l) (y : Its G us k) : Its G (vs ++ us) (l ++ k) := by
  refine ⟨by simp [x.1, y.1], fun i v z e1 e2 => ?_⟩
  by_cases h : i < vs.length
  · rw [List.getElem?_append_left h] at e1
    rw [List.getElem?_append_left (x.1 ▸ h)] at e2
    exact x.2 i v z e1 e2
  · have h := Nat.not_lt.mp h
    rw [List.getElem?_append_right h] at e1
    rw [List.getElem?_append_right (x.1 ▸ h)] at e2
    exact y.2 _ v z e1 (by rw [x.1]; exact e2)
theorem Its.get {G : Heap} {vs : List Value} {l : List AV} (x : Its G vs l) {i : Nat} {y : AV} (e : l[i]? = some y) : ∃ v, vs[i]? = some v ∧ At G v y := by
  have h : i < l.length := (List.getElem?_eq_some_iff.mp e).1
  have h' : i < vs.length := x.1 ▸ h
  exact ⟨vs[i], List.getElem?_eq_getElem h', x.2 i _ y (List.getElem?_eq_getElem h') e⟩
theorem Its.set {G : Heap} {vs : List Value} {l : List AV} {i : Nat} {v : Value} {y : AV} (x : Its G vs l) (a : At G v y) : Its G (vs.set i v) (l.set i y) := by
  refine ⟨by simp [x.1], fun j u z e1 e2 => ?_⟩
  rw [List.getElem?_set] at e1 e2
  by_cases h : i = j
  · subst h
    simp only [↓reduceIte] at e1 e2
    split at e1
    · rw [x.1] at *
      rename_i h2
      rw [if_pos h2] at e2
      cases e1; cases e2; exact a
    · cases e1
  · simp only [h, ↓reduceIte] at e1 e2
    exact x.2 j u z e1 e2
theorem Its.take {G : Heap} {vs : List Value} {l : List AV} (n : Nat) (x : Its G vs l) : Its G (vs.take n) (l.take n) := by
  refine ⟨by simp [x.1], fun j u z e1 e2 => ?_⟩
  rw [List.getElem?_take] at e1 e2
  split at e1
  · rename_i h; rw [if_pos h] at e2; exact x.2 j u z e1 e2
  · cases e1
theorem Its.drop {G : Heap} {vs : List Value} {l : List AV} (n : Nat) (x : Its G vs l) : Its G (vs.drop n) (l.drop n) := by
  refine ⟨by simp [x.1], fun j u z e1 e2 => ?_⟩
  rw [List.getElem?_drop] at e1 e2
  exact x.2 _ u z e1 e2
theorem Its.replicate {G : Heap} {v : Value} {y : AV} (n : Nat) (a : At G v y) : Its G (List.replicate n v) (List.replicate n y) := by
  refine ⟨by simp, fun j u z e1 e2 => ?_⟩
  rw [List.getElem?_replicate] at e1 e2
  split at e1
  · rename_i h; rw [if_pos h] at e2; cases e1; cases e2; exact a
  · cases e1

/-! ## the changeable objects -/
inductive AO where
  | list (l : List AV)
  | inst (C d : Addr)
  | dict (fs : List (Str × AV))
noncomputable abbrev Led := Addr → Option AO
noncomputable def put (mu : Led) (a : Addr) (o : AO) : Led := fun b => if b = a then some o else mu b
noncomputable def del (mu : Led) (a : Addr) : Led := fun b => if b = a then none else mu b

noncomputable def DictAt (G h : Heap) (d : Addr) (fs : List (Str × AV)) : Prop :=
  ∃ es n, h.get? d = some (dictOf es n) ∧ es.length ≤ fs.length ∧ (∀ e ∈ es, ∃ x t, e.key = .str x t) ∧ (∀ x, fs.lookup x = none → getL x es = some none) ∧
    (∀ x y, fs.lookup x = some y → ∃ v, getL x es = some (some v)) ∧ ∀ x y v, fs.lookup x = some y → getL x es = some (some v) → At G v y
noncomputable def AOAt (G h : Heap) (a : Addr) : AO → Prop
  | .list l => ∃ vs, h.PlainList a vs.toArray ∧ Its G vs l
  | .inst C d => h.get? a = some (instObj C d)
  | .dict fs => DictAt G h a fs
theorem AOAt.mono {G G' h h' : Heap} {a : Addr} {o : AO} (x : AOAt G h a o) (k : Sub G G') (e : ∀ o, h.get? a = some o → h'.get? a = some o) : AOAt G' h' a o := by
  cases o with
  | list l => obtain ⟨vs, p, q⟩ := x; exact ⟨vs, p.at e, q.mono k⟩
  | inst C d => exact e _ x
  | dict fs => obtain ⟨es, n, p, z, q, a, b, c⟩ := x; exact ⟨es, n, e _ p, z, q, a, b, fun x y v h1 h2 => (c x y v h1 h2).mono k⟩
theorem AOAt.some {G h : Heap} {a : Addr} {o : AO} (x : AOAt G h a o) : ∃ b, h.get? a = some b := by
  cases o with
  | list l => obtain ⟨vs, ⟨n, p⟩, _⟩ := x; exact ⟨_, p⟩
  | inst C d => exact ⟨_, x⟩
  | dict fs => obtain ⟨es, n, e, _⟩ := x; exact ⟨_, e⟩

/-- what the run of the top laid: the written part, the two name spaces, no limit set -/
structure Cx (K : Frag) (G : Heap) : Prop where
  K : K.In G
  g : ∃ mg, G.Ns mainGlobals mg
  b : ∃ mb, G.Ns builtinsNs mb ∧ ∀ x : Str, x ≠ "__name__" → mb x = bootBuiltins x
  lim : G.NoLimit
theorem Cx.sub {K : Frag} {G G' : Heap} (x : Cx K G) (k : Sub G G') : Cx K G' :=
  ⟨x.K.keeps k, let ⟨m, a⟩ := x.g; ⟨m, a.keeps k⟩, let ⟨m, a, r⟩ := x.b; ⟨m, a.keeps k, r⟩, x.lim.keeps k⟩

/-! ## a heap cut down to some addresses -/
noncomputable def cutO (o : Obj) : Bool → Obj
  | true => o
  | false => { o with data := .freed }
noncomputable def cutTo (h : Heap) (p : Addr → Bool) : Heap := ⟨h.objs.mapIdx fun i o => cutO o (p i), h.life⟩
theorem cutTo_get (h : Heap) (p : Addr → Bool) (a : Addr) : (cutTo h p).get? a = if p a then h.get? a else none := by
  unfold cutTo Heap.get?
  dsimp only
  rw [Array.getElem?_mapIdx]
  cases e : h.objs[a]? with
  | none => simp
  | some o =>
    obtain ⟨c, d, dt, sl⟩ := o
    cases q : p a with
    | true => simp only [Option.map_some, cutO, ↓reduceIte]
    | false => simp only [Option.map_some, cutO, Bool.false_eq_true, ↓reduceIte]
theorem cutTo_sub (h : Heap) (p : Addr → Bool) : Sub (cutTo h p) h := fun b o e => by
  rw [cutTo_get] at e; split at e
  · exact e
  · cases e

/-! ## the heap part of what is known, and a step -/
structure Gm (K : Frag) (G : Heap) (mu : Led) (h : Heap) : Prop where
  sub : Sub G h
  led : ∀ a o, mu a = some o → G.get? a = none ∧ AOAt G h a o
  cx : Cx K G

structure Step (K : Frag) (L : List Addr) (G : Heap) (mu : Led) (h : Heap) (G' : Heap) (mu' : Led) (h' : Heap) : Prop where
  sub : Sub G G'
  gm : Gm K G' mu' h'
  keep : ∀ b o, h.get? b = some o → b ∉ L → mu b = none → h'.get? b = some o
  newG : ∀ b, h.get? b ≠ none → mu b = none → G.get? b = none → G'.get? b = none
  newM : ∀ b, h.get? b ≠ none → mu b = none → mu' b = none
  live : ∀ b, h.get? b ≠ none → h'.get? b ≠ none

theorem Step.refl {K : Frag} {L : List Addr} {G h : Heap} {mu : Led} (g : Gm K G mu h) : Step K L G mu h G mu h :=
  ⟨Sub.refl _, g, fun _ _ e _ _ => e, fun _ _ _ e => e, fun _ _ e => e, fun _ e => e⟩
theorem Step.trans {K : Frag} {L : List Addr} {G h G1 h1 G2 h2 : Heap} {mu mu1 mu2 : Led} (x : Step K L G mu h G1 mu1 h1) (y : Step K L G1 mu1 h1 G2 mu2 h2) : Step K L G mu h G2 mu2 h2 := by
  refine ⟨x.sub.trans y.sub, y.gm, fun b o e n q => ?_, fun b a q n => ?_, fun b a q => ?_, fun b a => y.live b (x.live b a)⟩
  · have e1 := x.keep b o e n q
    exact y.keep b o e1 n (x.newM b (by rw [e]; exact Option.some_ne_none _) q)
  · exact y.newG b (x.live b a) (x.newM b a q) (x.newG b a q n)
  · exact y.newM b (x.live b a) (x.newM b a q)
theorem Step.wide {K : Frag} {L L' : List Addr} {G h G1 h1 : Heap} {mu mu1 : Led} (x : Step K L G mu h G1 mu1 h1) (k : ∀ b ∈ L, b ∈ L') : Step K L' G mu h G1 mu1 h1 :=
  ⟨x.sub, x.gm, fun b o e n q => x.keep b o e (fun z => n (k b z)) q, x.newG, x.newM, x.live⟩

/-- the heap has grown by things of no account -/
theorem Step.grow {K : Frag} {L : List Addr} {G h h' : Heap} {mu : Led} (g : Gm K G mu h) (k : Sub h h') : Step K L G mu h G mu h' :=
  ⟨Sub.refl _, ⟨g.sub.trans k, fun a o e => ⟨(g.led a o e).1, (g.led a o e).2.mono (Sub.refl _) fun o e => k _ o e⟩, g.cx⟩, fun b o e _ _ => k b o e, fun _ _ _ e => e, fun _ _ e => e,
    fun b e => by cases q : h.get? b with | none => exact absurd q e | some o => rw [k b o q]; exact Option.some_ne_none _⟩
/-- a thing of no account (fresh, neither settled nor of the ledger) is changed -/
theorem Step.but {K : Frag} {L : List Addr} {G h h' : Heap} {mu : Led} (g : Gm K G mu h) (k : ∀ b o, b ∉ L → h.get? b = some o → h'.get? b = some o) (hG : ∀ b ∈ L, G.get? b = none) (hm : ∀ b ∈ L, mu b = none)
    (hl : ∀ b ∈ L, h'.get? b ≠ none) : Step K L G mu h G mu h' :=
  ⟨Sub.refl _, ⟨fun b o e => k b o (fun n => by rw [hG b n] at e; cases e) (g.sub b o e), fun a o e => ⟨(g.led a o e).1, (g.led a o e).2.mono (Sub.refl _) fun o' e' => k _ o' (fun n => by rw [hm a n] at e; cases e) e'⟩, g.cx⟩,
    fun b o e n _ => k b o n e, fun _ _ _ e => e, fun _ _ e => e, fun b e => by
      by_cases n : b ∈ L
      · exact hl b n
      · cases q : h.get? b with | none => exact absurd q e | some o => rw [k b o n q]; exact Option.some_ne_none _⟩

/-- the settled part takes in fresh things -/
theorem Gm.take {K : Frag} {G h : Heap} {mu mu' : Led} (g : Gm K G mu h) (D : Addr → Bool) (hm : ∀ a o, mu' a = some o → mu a = some o ∧ D a = false) :
    ∃ G', Sub G G' ∧ Gm K G' mu' h ∧ (∀ b, G'.get? b = if (G.get? b).isSome || D b then h.get? b else none) := by
  refine ⟨cutTo h fun b => (G.get? b).isSome || D b, ?_, ?_, fun b => by rw [cutTo_get]⟩
  · intro b o e; rw [cutTo_get, e]; exact g.sub b o e
  · have k : Sub G (cutTo h fun b => (G.get? b).isSome || D b) := fun b o e => by rw [cutTo_get, e]; exact g.sub b o e
    exact ⟨cutTo_sub _ _, fun a o e => ⟨by rw [cutTo_get, (g.led a o (hm a o e).1).1, (hm a o e).2]; rfl, (g.led a o (hm a o e).1).2.mono k fun _ e => e⟩, g.cx.sub k⟩
theorem Step.take {K : Frag} {L : List Addr} {G h h' : Heap} {mu mu' : Led} (g : Gm K G mu h) (k : Sub h h') (D : Addr → Bool) (hm : ∀ a o, mu' a = some o → mu a = some o ∧ D a = false)
    (hD : ∀ b, D b = true → h.get? b = none ∨ mu b ≠ none) :
    ∃ G', Step K L G mu h G' mu' h' ∧ (∀ b, G'.get? b = if (G.get? b).isSome || D b then h'.get? b else none) := by
  have g1 := (Step.grow (L := L) g k).gm
  obtain ⟨G', a, b, c⟩ := g1.take D hm
  refine ⟨G', ⟨a, b, fun b o e _ _ => k b o e, fun x e q n => ?_, fun x e q => ?_, (Step.grow (L := L) g k).live⟩, c⟩
  · rw [c, n]
    cases z : D x with
    | false => rfl
    | true => rcases hD x z with h1 | h1
              · exact absurd h1 e
              · exact absurd q h1
  · cases z : mu' x with
    | none => rfl
    | some o => rw [(hm x o z).1] at q; cases q

/-! ### C2 -/
/-- the program, the world, the shared state but for its heap and its marks, the written part -/
structure Cfg where
  prog : Program
  w : World
  s : Shared
  K : Frag
noncomputable def Cfg.S (C : Cfg) (h : Heap) (t : Nat) : Shared := { C.s with heap := h, toks := t }
noncomputable abbrev Cfg.M (C : Cfg) : Model := model C.prog C.w
noncomputable abbrev No : Value → Shared → Prop := fun _ _ => False

/-- room for n more calls -/
structure Aok (n : Nat) (A : Around) : Prop where
  hd : A.handled = none
  dp : A.depth + 8 * n ≤ 800
  un : A.units + 16 * n ≤ 5000
theorem Aok.depth {n : Nat} {A : Around} (a : Aok n A) : A.depth < recursionLimit := by have := a.dp; show A.depth < 1000; omega
theorem Aok.le {n k : Nat} {A : Around} (a : Aok n A) (h : k ≤ n) : Aok k A := ⟨a.hd, by have := a.dp; omega, by have := a.un; omega⟩
theorem Aok.deeper {n : Nat} {A : Around} (a : Aok (n + 1) A) (env : Env) : Aok n (A.deeper env) :=
  ⟨a.hd, by have := a.dp; show A.depth + 1 + 8 * n ≤ 800; omega, by have := a.un; show A.units + 3 + 16 * n ≤ 5000; omega⟩

noncomputable abbrev own (env : Env) : List Addr := env.locals :: (env.cells.filter fun p => env.kindOf p.1 == some .cell).map (·.2)
theorem mem_own {env : Env} {x : Str} {c : Addr} (k : env.kindOf x = some .cell) (h : env.cells.lookup x = some c) : c ∈ own env := by
  refine List.mem_cons_of_mem _ (List.mem_map.mpr ⟨(x, c), List.mem_filter.mpr ⟨mem_of_lookup h, ?_⟩, rfl⟩)
  show (env.kindOf x == some .cell) = true
  rw [k]; decide

structure EnvOk (env : Env) : Prop where
  kind : env.scope.kind = .function
  g : env.globals = mainGlobals
  b : env.builtins = builtinsNs
  inj : ∀ x y c, env.kindOf x = some .cell → env.kindOf y = some .cell → env.cells.lookup x = some c → env.cells.lookup y = some c → x = y

noncomputable abbrev Mp := List (Str × AV)
noncomputable def VarIs (env : Env) (h : Heap) (x : Str) (v : Value) : Prop :=
  (env.kindOf x = some .local ∧ ∃ ml, h.Ns env.locals ml ∧ ml x = some v) ∨ (env.kindOf x = some .cell ∧ ∃ c, env.cells.lookup x = some c ∧ h.IsCell c (some v))

structure Vm (env : Env) (G : Heap) (m : Mp) (mu : Led) (h : Heap) : Prop where
  ok : EnvOk env
  own : ∀ b ∈ own env, G.get? b = none ∧ mu b = none ∧ h.get? b ≠ none
  fr : ∃ ml, h.Ns env.locals ml
  cel : ∀ x c, env.kindOf x = some .cell → env.cells.lookup x = some c → ∃ v, h.IsCell c v
  var : ∀ x y, m.lookup x = some y → ∃ v, VarIs env h x v ∧ At G v y

theorem VarIs.at {env : Env} {h h' : Heap} {x : Str} {v : Value} (V : VarIs env h x v) (k : ∀ b ∈ own env, ∀ o, h.get? b = some o → h'.get? b = some o) : VarIs env h' x v := by
  rcases V with ⟨a, ml, b, c⟩ | ⟨a, c, b, d⟩
  · exact .inl ⟨a, ml, b.at' fun o e => k _ (.head _) o e, c⟩
  · obtain ⟨o, e, d⟩ := d
    exact .inr ⟨a, c, b, o, k _ (mem_own a b) o e, d⟩
theorem Vm.step {K : Frag} {env : Env} {G G' h h' : Heap} {m : Mp} {mu mu' : Led} (V : Vm env G m mu h) (x : Step K [] G mu h G' mu' h') : Vm env G' m mu' h' := by
  have k : ∀ b ∈ Mine.own env, ∀ o, h.get? b = some o → h'.get? b = some o := fun b hb o e => x.keep b o e (by simp) (V.own b hb).2.1
  refine ⟨V.ok, fun b hb => ?_, ?_, fun y c hy hc => ?_, fun y z e => ?_⟩
  · obtain ⟨a1, a2, a3⟩ := V.own b hb
    exact ⟨x.newG b a3 a2 a1, x.newM b a3 a2, x.live b a3⟩
  · obtain ⟨ml, a⟩ := V.fr; exact ⟨ml, a.at' fun o e => k _ (.head _) o e⟩
  · obtain ⟨v, o, e, d⟩ := V.cel y c hy hc; exact ⟨v, o, k _ (mem_own hy hc) o e, d⟩
  · obtain ⟨v, a, b⟩ := V.var y z e; exact ⟨v, a.at k, b.mono x.sub⟩
noncomputable def Le (m' m : Mp) : Prop := ∀ p ∈ m', m.lookup p.1 = some p.2
theorem Le.look {m' m : Mp} (x : Le m' m) {y : Str} {z : AV} (e : m'.lookup y = some z) : m.lookup y = some z := x (y, z) (mem_of_lookup e)
theorem Le.nil {m : Mp} : Le [] m := fun _ h => nomatch h
theorem Le.cons {m' m : Mp} {x : Str} {y : AV} (h : m.lookup x = some y) (r : Le m' m) : Le ((x, y) :: m') m := fun p hp => by
  rcases List.mem_cons.mp hp with rfl | hp
  · exact h
  · exact r p hp
theorem Vm.weak {env : Env} {G h : Heap} {m m' : Mp} {mu : Led} (V : Vm env G m mu h) (x : Le m' m) : Vm env G m' mu h := ⟨V.ok, V.own, V.fr, V.cel, fun y z e => V.var y z (x.look e)⟩

/-! ## judgements -/
section
variable (C : Cfg) (n : Nat)
/-- a tree run in a block: what it hands on and how the ledger stands -/
noncomputable def WS {α β : Type} (env : Env) (m : Mp) (R : Heap → α → β → Prop) (t : Sem α) (mu : Led) (P : β → Led → Prop) : Prop :=
  ∀ A, Aok n A → ∀ G h k, Gm C.K G mu h → Vm env G m mu h → ∀ Q : α → Shared → Prop,
    (∀ v y G' mu' h' k', Step C.K [] G mu h G' mu' h' → R G' v y → P y mu' → Q v (C.S h' k')) → wpAny C.M A t Q No (C.S h k)
noncomputable def T (env : Env) (m : Mp) (e : Expr) (mu : Led) (P : AV → Led → Prop) : Prop := WS C n env m At (eval e env) mu P
noncomputable def TB (env : Env) (m : Mp) (e : Expr) (mu : Led) (P : Bool → Led → Prop) : Prop := WS C n env m (fun _ a b => a = b) (isTrue e env (eval e env)) mu P
noncomputable def TL (env : Env) (m : Mp) (pos : Pos) (es : List Expr) (mu : Led) (P : List AV → Led → Prop) : Prop := WS C n env m Its (spliced (backTo pos (starEach es env))) mu P
/-- what is done with values, in no block -/
noncomputable def OpL {β : Type} (R : Heap → Value → β → Prop) (f : List Value → Sem Value) (ys : List AV) (mu : Led) (P : β → Led → Prop) : Prop :=
  ∀ A, Aok n A → ∀ G h k vs, Gm C.K G mu h → Its G vs ys → ∀ Q : Value → Shared → Prop,
    (∀ v y G' mu' h' k', Step C.K [] G mu h G' mu' h' → R G' v y → P y mu' → Q v (C.S h' k')) → wpAny C.M A (f vs) Q No (C.S h k)
noncomputable def Op1 {α β : Type} (R : Heap → α → β → Prop) (f : Value → Sem α) (a : AV) (mu : Led) (P : β → Led → Prop) : Prop :=
  ∀ A, Aok n A → ∀ G h k v, Gm C.K G mu h → At G v a → ∀ Q : α → Shared → Prop,
    (∀ r y G' mu' h' k', Step C.K [] G mu h G' mu' h' → R G' r y → P y mu' → Q r (C.S h' k')) → wpAny C.M A (f v) Q No (C.S h k)
noncomputable def Op2 {α β : Type} (R : Heap → α → β → Prop) (f : Value → Value → Sem α) (a b : AV) (mu : Led) (P : β → Led → Prop) : Prop :=
  ∀ A, Aok n A → ∀ G h k v u, Gm C.K G mu h → At G v a → At G u b → ∀ Q : α → Shared → Prop,
    (∀ r y G' mu' h' k', Step C.K [] G mu h G' mu' h' → R G' r y → P y mu' → Q r (C.S h' k')) → wpAny C.M A (f v u) Q No (C.S h k)
end

section
variable {C : Cfg} {n : Nat} {env : Env} {m : Mp} {mu : Led}

theorem T.mono {e : Expr} {P P' : AV → Led → Prop} (h : T C n env m e mu P) (k : ∀ y mu', P y mu' → P' y mu') : T C n env m e mu P' :=
  fun A a G hh t g V Q q => h A a G hh t g V Q fun v y G' mu' h' t' x r p => q v y G' mu' h' t' x r (k _ _ p)
theorem TB.mono {e : Expr} {P P' : Bool → Led → Prop} (h : TB C n env m e mu P) (k : ∀ y mu', P y mu' → P' y mu') : TB C n env m e mu P' :=
  fun A a G hh t g V Q q => h A a G hh t g V Q fun v y G' mu' h' t' x r p => q v y G' mu' h' t' x r (k _ _ p)

/-! ### constants, names -/
theorem T_int {i : Int} {k : Nat} {pos : Pos} {P : AV → Led → Prop} (h : P (.int i) mu) : T C n env m (.Constant (.int i) k pos) mu P :=
  fun _ _ _ _ _ g _ _ q => wpAny_Constant_int (q _ _ _ _ _ _ (.refl g) (.int _ _) h)
theorem T_bool {b : Bool} {k : Nat} {pos : Pos} {P : AV → Led → Prop} (h : P (.val (.bool b)) mu) : T C n env m (.Constant (.bool b) k pos) mu P :=
  fun _ _ _ _ _ g _ _ q => wpAny_Constant_bool (q _ _ _ _ _ _ (.refl g) (.val _) h)
theorem T_none {k : Nat} {pos : Pos} {P : AV → Led → Prop} (h : P (.val .none) mu) : T C n env m (.Constant .none k pos) mu P :=
  fun _ _ _ _ _ g _ _ q => wpAny_Constant_none (q _ _ _ _ _ _ (.refl g) (.val _) h)
theorem T_str {x : Str} {k : Nat} {pos : Pos} {P : AV → Led → Prop} (h : P (.str x) mu) : T C n env m (.Constant (.str x) k pos) mu P :=
  fun _ _ _ _ _ g _ _ q => wpAny_Constant_str (q _ _ _ _ _ _ (.refl g) (.str _ _) h)
theorem T_name {x : Str} {pos : Pos} {y : AV} {P : AV → Led → Prop} (e : m.lookup x = some y) (h : P y mu) (hd : (x == ("__debug__" : Str)) = false := by decide) : T C n env m (.Name x pos) mu P := by
  intro A a G hh t g V Q q
  obtain ⟨v, V1, V2⟩ := V.var x y e
  have z := q _ _ _ _ hh t (.refl g) V2 h
  rcases V1 with ⟨k, ml, b, c⟩ | ⟨k, c, b, d⟩
  · exact wpAny_Name (wpAny_loadName_local V.ok.kind k (s := C.S hh t) b c z) hd
  · exact wpAny_Name (wpAny_loadName_cell V.ok.kind k b (s := C.S hh t) d z) hd
theorem T_glob {x : Str} {pos : Pos} {v : Value} {P : AV → Led → Prop} (e : nsIn C.K mainGlobals x = some (some v)) (hx : env.kindOf x = some .globalImplicit) (h : P (.val v) mu) (hd : (x == ("__debug__" : Str)) = false := by decide) :
    T C n env m (.Name x pos) mu P := by
  intro A a G hh t g V Q q
  obtain ⟨mg, hg⟩ := g.cx.g
  exact Name_function_global V.ok.kind hx (loadGlobal_global (s := C.S hh t) (mg := mg) (V.ok.g ▸ hg.keeps g.sub) (mg_of g.cx.K hg e) (q _ _ _ _ hh t (.refl g) (.val _) h)) hd
theorem T_blt {x : Str} {pos : Pos} {v : Value} {P : AV → Led → Prop} (e : nsIn C.K mainGlobals x = some none) (hb : bootBuiltins x = some v) (hx : env.kindOf x = some .globalImplicit) (h : P (.val v) mu)
    (hn : x ≠ "__name__") (hd : (x == ("__debug__" : Str)) = false := by decide) : T C n env m (.Name x pos) mu P := by
  intro A a G hh t g V Q q
  obtain ⟨mg, hg⟩ := g.cx.g
  obtain ⟨mb, hb1, hb2⟩ := g.cx.b
  exact Name_function_global V.ok.kind hx (loadGlobal_builtin (s := C.S hh t) (mg := mg) (mb := mb) (V.ok.g ▸ hg.keeps g.sub) (mg_none_of g.cx.K hg e) (V.ok.b ▸ hb1.keeps g.sub) ((hb2 x hn).trans hb) (q _ _ _ _ hh t (.refl g) (.val _) h)) hd

/-! ### what comes after, by name (short proofs' terms) -/
noncomputable abbrev KOp (C : Cfg) (n : Nat) (op : Operator) (a : AV) (P : AV → Led → Prop) : AV → Led → Prop := fun b mu₂ => Op2 C n At (binaryOp op) a b mu₂ P
noncomputable abbrev KBin (C : Cfg) (n : Nat) (env : Env) (m : Mp) (r : Expr) (op : Operator) (P : AV → Led → Prop) : AV → Led → Prop := fun a mu₁ => T C n env m r mu₁ (KOp C n op a P)
noncomputable abbrev KUn (C : Cfg) (n : Nat) (op : UnaryOp) (P : AV → Led → Prop) : AV → Led → Prop := fun a mu₁ => Op1 C n At (unaryOp op) a mu₁ P
noncomputable abbrev KCmp2 (C : Cfg) (n : Nat) (op : CmpOp) (a : AV) (P : AV → Led → Prop) : AV → Led → Prop := fun b mu₂ => Op2 C n At (compareOp op) a b mu₂ P
noncomputable abbrev KCmp (C : Cfg) (n : Nat) (env : Env) (m : Mp) (r : Expr) (op : CmpOp) (P : AV → Led → Prop) : AV → Led → Prop := fun a mu₁ => T C n env m r mu₁ (KCmp2 C n op a P)
noncomputable abbrev KTst2 (C : Cfg) (n : Nat) (op : CmpOp) (a : AV) (P : Bool → Led → Prop) : AV → Led → Prop := fun b mu₂ => Op2 C n (fun _ v b => v = Value.bool b) (compareOp op) a b mu₂ P
noncomputable abbrev KTst (C : Cfg) (n : Nat) (env : Env) (m : Mp) (r : Expr) (op : CmpOp) (P : Bool → Led → Prop) : AV → Led → Prop := fun a mu₁ => T C n env m r mu₁ (KTst2 C n op a P)
noncomputable abbrev KC2 (a : AV) (P : List AV → Led → Prop) : List AV → Led → Prop := fun l mu₂ => P (a :: l) mu₂
noncomputable abbrev KC1 (C : Cfg) (n : Nat) (env : Env) (m : Mp) (pos : Pos) (rest : List Expr) (P : List AV → Led → Prop) : AV → Led → Prop := fun a mu₁ => TL C n env m pos rest mu₁ (KC2 a P)
noncomputable abbrev KTup (P : AV → Led → Prop) : List AV → Led → Prop := fun l mu₁ => l.length ≤ 1000 ∧ P (.tup l) mu₁
noncomputable abbrev KList (P : AV → Led → Prop) : List AV → Led → Prop := fun l mu₁ => l.length ≤ 1000 ∧ P (.list l) mu₁

/-! ### operators -/
theorem T_bin {l r : Expr} {op : Operator} {pos : Pos} {P : AV → Led → Prop}
    (h : T C n env m l mu (KBin C n env m r op P)) : T C n env m (.BinOp l op r pos) mu P := by
  intro A a G hh t g V Q q
  refine wpAny_BinOp (h A a G hh t g V _ fun v x G1 mu1 h1 t1 S1 R1 p1 => ?_)
  refine p1 A a G1 h1 t1 S1.gm (V.step S1) _ fun u y G2 mu2 h2 t2 S2 R2 p2 => ?_
  refine p2 A a G2 h2 t2 v u S2.gm (R1.mono S2.sub) R2 _ fun r z G3 mu3 h3 t3 S3 R3 p3 => ?_
  exact q r z G3 mu3 h3 t3 (S1.trans (S2.trans S3)) R3 p3
theorem T_un {e : Expr} {op : UnaryOp} {pos : Pos} {P : AV → Led → Prop} (h : T C n env m e mu (KUn C n op P)) : T C n env m (.UnaryOp op e pos) mu P := by
  intro A a G hh t g V Q q
  refine wpAny_UnaryOp (h A a G hh t g V _ fun v x G1 mu1 h1 t1 S1 R1 p1 => ?_)
  exact p1 A a G1 h1 t1 v S1.gm R1 _ fun r z G3 mu3 h3 t3 S3 R3 p3 => q r z G3 mu3 h3 t3 (S1.trans S3) R3 p3
theorem T_cmp {l r : Expr} {op : CmpOp} {pos : Pos} {P : AV → Led → Prop}
    (h : T C n env m l mu (KCmp C n env m r op P)) (hm : behindInMarks op r = false := by with_unfolding_all rfl) : T C n env m (.Compare l [op] [r] pos) mu P := by
  intro A a G hh t g V Q q
  refine wpAny_Compare1 (h A a G hh t g V _ fun v x G1 mu1 h1 t1 S1 R1 p1 => ?_) hm
  refine p1 A a G1 h1 t1 S1.gm (V.step S1) _ fun u y G2 mu2 h2 t2 S2 R2 p2 => ?_
  refine p2 A a G2 h2 t2 v u S2.gm (R1.mono S2.sub) R2 _ fun r z G3 mu3 h3 t3 S3 R3 p3 => ?_
  exact q r z G3 mu3 h3 t3 (S1.trans (S2.trans S3)) R3 p3
theorem T_ifexp {test body orelse : Expr} {pos : Pos} {P : AV → Led → Prop}
    (h : TB C n env m test mu fun b mu₁ => if b then T C n env m body mu₁ P else T C n env m orelse mu₁ P) : T C n env m (.IfExp test body orelse pos) mu P := by
  intro A a G hh t g V Q q
  refine wpAny_IfExp (h A a G hh t g V _ fun b b' G1 mu1 h1 t1 S1 R1 p1 => ?_)
  subst R1
  cases b with
  | true => exact p1 A a G1 h1 t1 S1.gm (V.step S1) _ fun r z G3 mu3 h3 t3 S3 R3 p3 => q r z G3 mu3 h3 t3 (S1.trans S3) R3 p3
  | false => exact p1 A a G1 h1 t1 S1.gm (V.step S1) _ fun r z G3 mu3 h3 t3 S3 R3 p3 => q r z G3 mu3 h3 t3 (S1.trans S3) R3 p3

/-! ### tests -/
theorem TB_cmp {l r : Expr} {op : CmpOp} {pos : Pos} {P : Bool → Led → Prop}
    (h : T C n env m l mu (KTst C n env m r op P)) (hm : behindInMarks op r = false := by with_unfolding_all rfl) :
    TB C n env m (.Compare l [op] [r] pos) mu P := by
  intro A a G hh t g V Q q
  refine wpAny_isTrue_Compare1 (h A a G hh t g V _ fun v x G1 mu1 h1 t1 S1 R1 p1 => ?_) hm
  refine p1 A a G1 h1 t1 S1.gm (V.step S1) _ fun u y G2 mu2 h2 t2 S2 R2 p2 => ?_
  refine p2 A a G2 h2 t2 v u S2.gm (R1.mono S2.sub) R2 _ fun r z G3 mu3 h3 t3 S3 R3 p3 => ?_
  subst R3
  exact wpAny_truthy_bool (q _ z G3 mu3 h3 t3 (S1.trans (S2.trans S3)) rfl p3)
theorem TB_bool {e : Expr} {op : BoolOp} {pos : Pos} {values : List Expr} {P : Bool → Led → Prop} (h : WS C n env m (fun _ a b => a = b) (allTrue op values env) mu P) (_ : e = .BoolOp op values pos := by rfl) :
    TB C n env m (.BoolOp op values pos) mu P :=
  fun A a G hh t g V Q q => wpAny_isTrue_BoolOp (h A a G hh t g V Q q)
theorem TA_or_nil {P : Bool → Led → Prop} (h : P false mu) : WS C n env m (fun _ a b => a = b) (allTrue .Or [] env) mu P := fun _ _ _ _ _ g _ _ q => wpAny_allTrue_Or_nil (q _ _ _ _ _ _ (.refl g) rfl h)
theorem TA_and_nil {P : Bool → Led → Prop} (h : P true mu) : WS C n env m (fun _ a b => a = b) (allTrue .And [] env) mu P := fun _ _ _ _ _ g _ _ q => wpAny_allTrue_And_nil (q _ _ _ _ _ _ (.refl g) rfl h)
theorem TA_or {x : Expr} {rest : List Expr} {P : Bool → Led → Prop} (h : TB C n env m x mu fun b mu₁ => if b then P true mu₁ else WS C n env m (fun _ a b => a = b) (allTrue .Or rest env) mu₁ P) :
    WS C n env m (fun _ a b => a = b) (allTrue .Or (x :: rest) env) mu P := by
  intro A a G hh t g V Q q
  refine wpAny_allTrue_Or_cons (h A a G hh t g V _ fun b b' G1 mu1 h1 t1 S1 R1 p1 => ?_)
  subst R1
  cases b with
  | true => exact q _ _ G1 mu1 h1 t1 S1 rfl p1
  | false => exact p1 A a G1 h1 t1 S1.gm (V.step S1) _ fun r z G3 mu3 h3 t3 S3 R3 p3 => q r z G3 mu3 h3 t3 (S1.trans S3) R3 p3
theorem TA_and {x : Expr} {rest : List Expr} {P : Bool → Led → Prop} (h : TB C n env m x mu fun b mu₁ => if b then WS C n env m (fun _ a b => a = b) (allTrue .And rest env) mu₁ P else P false mu₁) :
    WS C n env m (fun _ a b => a = b) (allTrue .And (x :: rest) env) mu P := by
  intro A a G hh t g V Q q
  refine wpAny_allTrue_And_cons (h A a G hh t g V _ fun b b' G1 mu1 h1 t1 S1 R1 p1 => ?_)
  subst R1
  cases b with
  | false => exact q _ _ G1 mu1 h1 t1 S1 rfl p1
  | true => exact p1 A a G1 h1 t1 S1.gm (V.step S1) _ fun r z G3 mu3 h3 t3 S3 R3 p3 => q r z G3 mu3 h3 t3 (S1.trans S3) R3 p3
theorem T_and3 {x y z : Expr} {pos : Pos} {P : AV → Led → Prop}
    (h : T C n env m x mu fun a mu₁ => a = .val (.bool true) ∧ T C n env m y mu₁ fun b mu₂ => b = .val (.bool true) ∧ T C n env m z mu₂ P) : T C n env m (.BoolOp .And [x, y, z] pos) mu P := by
  intro A a G hh t g V Q q
  show wpAny _ _ (do
    let v ← eval x env
    standAt pos
    let t ← holding [v] (truthy v)
    match BoolOp.And, t with
    | .And, false | .Or, true => pure v
    | _, _ => do
      let v ← eval y env
      standAt pos
      let t ← holding [v] (truthy v)
      match BoolOp.And, t with
      | .And, false | .Or, true => pure v
      | _, _ => eval z env) _ _ _
  refine wpAny_bind (h A a G hh t g V _ fun v x G1 mu1 h1 t1 S1 R1 p1 => ?_)
  obtain ⟨rfl, p1⟩ := p1
  cases R1
  refine wpAny_bind (wpAny_standAt (wpAny_bind (wpAny_holding (wpAny_truthy_bool ?_))))
  refine wpAny_bind (p1 A a G1 h1 t1 S1.gm (V.step S1) _ fun v x G2 mu2 h2 t2 S2 R2 p2 => ?_)
  obtain ⟨rfl, p2⟩ := p2
  cases R2
  refine wpAny_bind (wpAny_standAt (wpAny_bind (wpAny_holding (wpAny_truthy_bool ?_))))
  exact p2 A a G2 h2 t2 S2.gm (V.step (S1.trans S2)) _ fun r z G3 mu3 h3 t3 S3 R3 p3 => q r z G3 mu3 h3 t3 (S1.trans (S2.trans S3)) R3 p3

/-! ### several -/
theorem TL_nil {pos : Pos} {P : List AV → Led → Prop} (h : P [] mu) : TL C n env m pos [] mu P := fun _ _ _ _ _ g _ _ q => wpAny_items_nil (q _ _ _ _ _ _ (.refl g) .nil h)
theorem TL_cons {pos : Pos} {e : Expr} {rest : List Expr} {P : List AV → Led → Prop} (h : T C n env m e mu (KC1 C n env m pos rest P))
    (he : starEach (e :: rest) env = (false, eval e env) :: starEach rest env := by rfl) : TL C n env m pos (e :: rest) mu P := by
  intro A a G hh t g V Q q
  refine wpAny_items_cons (h A a G hh t g V _ fun v x G1 mu1 h1 t1 S1 R1 p1 => ?_) he
  refine p1 A a G1 h1 t1 S1.gm (V.step S1) _ fun vs l G2 mu2 h2 t2 S2 R2 p2 => ?_
  exact q _ _ G2 mu2 h2 t2 (S1.trans S2) (R2.cons (R1.mono S2.sub)) p2
end

/-! ### a fresh thing -/
section
variable {K : Frag} {L : List Addr} {G h : Heap} {mu : Led}
theorem get_fresh (h : Heap) : h.get? h.objs.size = none := by
  cases e : h.get? h.objs.size with
  | none => rfl
  | some o => exact absurd (Heap.lt_size e) (Nat.lt_irrefl _)
theorem Gm.fresh (g : Gm K G mu h) : mu h.objs.size = none := by
  cases e : mu h.objs.size with
  | none => rfl
  | some o => obtain ⟨b, q⟩ := (g.led _ o e).2.some; exact absurd (Heap.lt_size q) (Nat.lt_irrefl _)
theorem push_sub (h : Heap) (o : Obj) : Sub h (h.push o) := fun _ _ e => Heap.get?_push_of_some _ e
/-- a fresh thing, settled at once -/
theorem Step.alloc (g : Gm K G mu h) (o : Obj) (ho : o.isFreed = false) : ∃ G', Step K L G mu h G' mu (h.push o) ∧ G'.get? h.objs.size = some o := by
  obtain ⟨G', S, c⟩ := Step.take (L := L) (mu' := mu) g (push_sub h o) (fun b => b == h.objs.size) (fun a o e => ⟨e, by
    cases q : a == h.objs.size with
    | false => rfl
    | true => rw [eq_of_beq q, g.fresh] at e; cases e⟩) (fun b e => .inl (by rw [eq_of_beq e]; exact get_fresh h))
  refine ⟨G', S, ?_⟩
  rw [c]; simp only [beq_self_eq_true, Bool.or_true, ↓reduceIte]
  exact Heap.get?_push_size _ ho
/-- a fresh thing of the ledger -/
theorem Step.allocM (g : Gm K G mu h) (o : Obj) (ao : AO) (x : AOAt G (h.push o) h.objs.size ao) : Step K L G mu h G (put mu h.objs.size ao) (h.push o) := by
  have hG : G.get? h.objs.size = none := by
    cases e : G.get? h.objs.size with
    | none => rfl
    | some o => have := g.sub _ _ e; rw [get_fresh] at this; cases this
  refine ⟨Sub.refl _, ⟨g.sub.trans (push_sub h o), fun a o' e => ?_, g.cx⟩, fun b o' e _ _ => push_sub h o b o' e, fun _ _ _ e => e, fun b e q => ?_, (Step.grow (L := L) g (push_sub h o)).live⟩
  · unfold put at e
    split at e
    · rename_i q; subst q; cases e; exact ⟨hG, x⟩
    · exact ⟨(g.led a o' e).1, (g.led a o' e).2.mono (Sub.refl _) fun o e => push_sub h _ _ o e⟩
  · unfold put; rw [if_neg (fun z => e (by rw [z]; exact get_fresh h))]; exact q
/-- a list of the ledger settles -/
theorem Step.freeze (g : Gm K G mu h) {a : Addr} {l : List AV} (e : mu a = some (.list l)) : ∃ G', Step K L G mu h G' (del mu a) h ∧ At G' (.ref a) (.list l) := by
  obtain ⟨G', S, c⟩ := Step.take (L := L) (mu' := del mu a) g (Sub.refl h) (fun b => b == a) (fun b o q => by
    unfold del at q; split at q
    · cases q
    · rename_i z; exact ⟨q, by simpa using z⟩) (fun b q => .inr (by rw [eq_of_beq q, e]; exact Option.some_ne_none _))
  obtain ⟨_, vs, p, q⟩ := g.led a _ e
  refine ⟨G', S, .list (p.at fun o z => ?_) q.1 (q.mono S.sub).2⟩
  rw [c]; simp only [beq_self_eq_true, Bool.or_true, ↓reduceIte]; exact z
/-- an object of the ledger settles -/
theorem Step.freezeI (g : Gm K G mu h) {a d Cl : Addr} {fs : List (Str × AV)} (e : mu a = some (.inst Cl d)) (e' : mu d = some (.dict fs)) : ∃ G', Step K L G mu h G' (del (del mu d) a) h ∧ At G' (.ref a) (.inst Cl fs) := by
  obtain ⟨G', S, c⟩ := Step.take (L := L) (mu' := del (del mu d) a) g (Sub.refl h) (fun b => b == a || b == d) (fun b o q => by
    unfold del at q
    split at q
    · cases q
    · split at q
      · cases q
      · rename_i z1 z2; exact ⟨q, by simp [z1, z2]⟩) (fun b q => .inr (by
        rcases Bool.or_eq_true_iff.mp q with q | q
        · rw [eq_of_beq q, e]; exact Option.some_ne_none _
        · rw [eq_of_beq q, e']; exact Option.some_ne_none _))
  have p1 : h.get? a = some (instObj Cl d) := (g.led a _ e).2
  obtain ⟨es, n, p2, _, _, p3, p4, p5⟩ : DictAt G h d fs := (g.led d _ e').2
  refine ⟨G', S, .inst (d := d) (es := es) (n := n) ?_ ?_ p3 p4 fun x y v a b => (p5 x y v a b).mono S.sub⟩
  · rw [c]; simp only [beq_self_eq_true, Bool.true_or, Bool.or_true, ↓reduceIte]; exact p1
  · rw [c]; simp only [beq_self_eq_true, Bool.or_true, ↓reduceIte]; exact p2
end

section
variable {C : Cfg} {n : Nat} {env : Env} {m : Mp} {mu : Led}
theorem T_tuple {elts : List Expr} {k : Nat} {pos : Pos} {P : AV → Led → Prop} (h : TL C n env m pos elts mu (KTup P)) : T C n env m (.Tuple elts k pos) mu P := by
  intro A a G hh t g V Q q
  refine wpAny_Tuple (h A a G hh t g V _ fun vs l G1 mu1 h1 t1 S1 R1 p1 => ?_)
  refine ⟨by rw [R1.1, sizeLine_eq]; have := p1.1; omega, ?_⟩
  obtain ⟨G2, S2, e⟩ := Step.alloc (L := []) S1.gm { cls := .type "tuple", data := .seq vs.toArray } rfl
  exact q _ _ G2 mu1 _ t1 (S1.trans S2) (.tup ⟨_, e⟩ R1.1 (R1.mono S2.sub).2) p1.2
/-- a list display, settled at once -/
theorem T_list {elts : List Expr} {pos : Pos} {P : AV → Led → Prop} (h : TL C n env m pos elts mu (KList P)) : T C n env m (.List elts pos) mu P := by
  intro A a G hh t g V Q q
  refine wpAny_List (h A a G hh t g V _ fun vs l G1 mu1 h1 t1 S1 R1 p1 => ?_)
  refine ⟨by rw [R1.1, sizeLine_eq]; have := p1.1; omega, ?_⟩
  obtain ⟨G2, S2, e⟩ := Step.alloc (L := []) S1.gm { cls := .type "list", data := .seq vs.toArray } rfl
  exact q _ _ G2 mu1 _ t1 (S1.trans S2) (.list ⟨_, e⟩ R1.1 (R1.mono S2.sub).2) p1.2
/-- a list display that may yet change -/
theorem T_listM {elts : List Expr} {pos : Pos} {P : AV → Led → Prop} (h : TL C n env m pos elts mu fun l mu₁ => l.length ≤ 1000 ∧ ∀ a, mu₁ a = none → P (.val (.ref a)) (put mu₁ a (.list l))) : T C n env m (.List elts pos) mu P := by
  intro A a G hh t g V Q q
  refine wpAny_List (h A a G hh t g V _ fun vs l G1 mu1 h1 t1 S1 R1 p1 => ?_)
  refine ⟨by rw [R1.1, sizeLine_eq]; have := p1.1; omega, ?_⟩
  have S2 := Step.allocM (L := []) (K := C.K) S1.gm { cls := .type "list", data := .seq vs.toArray } (.list l) ⟨vs, ⟨0, Heap.get?_push_size _ rfl⟩, R1⟩
  exact q _ _ G1 _ _ t1 (S1.trans S2) (.val _) (p1.2 _ S1.gm.fresh)
/-- what was made settles -/
theorem T_settle {e : Expr} {P : AV → Led → Prop} (h : T C n env m e mu fun y mu₁ => ∃ a l, y = .val (.ref a) ∧ mu₁ a = some (.list l) ∧ P (.list l) (del mu₁ a)) : T C n env m e mu P := by
  intro A a G hh t g V Q q
  refine h A a G hh t g V _ fun v y G1 mu1 h1 t1 S1 R1 p1 => ?_
  obtain ⟨b, l, rfl, e1, p⟩ := p1
  cases R1
  obtain ⟨G2, S2, R2⟩ := Step.freeze (L := []) S1.gm e1
  exact q _ _ G2 _ h1 t1 (S1.trans S2) R2 p
end

/-! ### C3 -/
section
variable {C : Cfg} {n : Nat} {env : Env} {m : Mp} {mu : Led}

/-! ### ints -/
theorem op2_int {f : Value → Value → Sem Value} {a b c : Int} {P : AV → Led → Prop}
    (hf : ∀ (A : Around) (s : Shared) (t u : Tok) (Q : Value → Shared → Prop), Q (.int c s.toks) { s with toks := s.toks + 1 } → wpAny C.M A (f (.int a t) (.int b u)) Q No s) (h : P (.int c) mu) :
    Op2 C n At f (.int a) (.int b) mu P := by
  intro A ha G hh t v u g r1 r2 Q q
  cases r1; cases r2
  exact hf A (C.S hh t) _ _ Q (q _ _ _ _ _ _ (.refl g) (.int _ _) h)
theorem O_add {a b : Int} {P : AV → Led → Prop} (h : P (.int (a + b)) mu) : Op2 C n At (binaryOp .Add) (.int a) (.int b) mu P := op2_int (fun _ _ _ _ _ q => add_int q) h
theorem O_sub {a b : Int} {P : AV → Led → Prop} (h : P (.int (a - b)) mu) : Op2 C n At (binaryOp .Sub) (.int a) (.int b) mu P := op2_int (fun _ _ _ _ _ q => sub_int q) h
theorem bits_le {a : Int} (h : a.natAbs < 2 ^ 64) : ¬ Builtin.Int.intBits a > 64 := by
  unfold Builtin.Int.intBits
  split
  · omega
  · rename_i h0
    have h1 : a ≠ 0 := by simpa using h0
    have := (Nat.log2_lt (n := a.natAbs) (k := 64) (by omega)).mpr h; omega
theorem mulOk_l {a b : Int} (h : a.natAbs < 2 ^ 64) : IntMulOk a b := by
  unfold IntMulOk
  rw [show decide (Builtin.Int.intBits a > shortFactorBits) = false from decide_eq_false (bits_le h)]; simp
theorem mulOk_r {a b : Int} (h : b.natAbs < 2 ^ 64) : IntMulOk a b := by
  unfold IntMulOk
  rw [show decide (Builtin.Int.intBits b > shortFactorBits) = false from decide_eq_false (bits_le h)]; simp
theorem O_mul {a b : Int} {P : AV → Led → Prop} (hz : a.natAbs < 2 ^ 64 ∨ b.natAbs < 2 ^ 64) (h : P (.int (a * b)) mu) : Op2 C n At (binaryOp .Mult) (.int a) (.int b) mu P :=
  op2_int (fun _ _ _ _ _ q => PyProof.Rows.mul_int q (hz.elim mulOk_l mulOk_r)) h
theorem O_fdiv {a b : Int} {P : AV → Led → Prop} (hb : 0 < b) (hz : b < 1000000) (h : P (.int (a / b)) mu) : Op2 C n At (binaryOp .FloorDiv) (.int a) (.int b) mu P := by
  refine op2_int (c := a / b) (fun _ _ _ _ _ q => PyProof.Rows.floordiv_int (by omega) ?_ (.inl (PyProof.noPylong_small (by omega)))) h
  rw [Int.fdiv_eq_ediv_of_nonneg _ (by omega)]; exact q
theorem O_mod {a b : Int} {P : AV → Led → Prop} (hb : 0 < b) (h : P (.int (a % b)) mu) : Op2 C n At (binaryOp .Mod) (.int a) (.int b) mu P := by
  refine op2_int (c := a % b) (fun _ _ _ _ _ q => PyProof.Rows.mod_int' (by omega) ?_) h
  rw [Int.fmod_eq_emod_of_nonneg _ (by omega)]; exact q
theorem O_shr {a b : Int} {P : AV → Led → Prop} (hb : 0 ≤ b) (h : P (.int (a / 2 ^ b.toNat)) mu) : Op2 C n At (binaryOp .RShift) (.int a) (.int b) mu P := by
  refine op2_int (c := a / 2 ^ b.toNat) (fun _ _ _ _ _ q => PyProof.Rows.rshift_int hb ?_) h
  rw [Int.fdiv_eq_ediv_of_nonneg _ (Int.le_of_lt (Int.pow_pos (by decide)))]; exact q
theorem O_shl {a b : Int} {P : AV → Led → Prop} (hb : 0 ≤ b) (hb2 : b ≤ 1000) (ha : a.natAbs < 2 ^ 64) (h : P (.int (a * 2 ^ b.toNat)) mu) : Op2 C n At (binaryOp .LShift) (.int a) (.int b) mu P :=
  op2_int (fun _ _ _ _ _ q => PyProof.Rows.lshift_int_small hb (by omega) ha q) h
theorem O_pow {a b : Int} {P : AV → Led → Prop} (hb : 0 ≤ b) (hb2 : b ≤ 1000) (ha : a.natAbs < 2 ^ 64) (h : P (.int (a ^ b.toNat)) mu) : Op2 C n At (binaryOp .Pow) (.int a) (.int b) mu P :=
  op2_int (fun _ _ _ _ _ q => PyProof.Rows.pow_int_small hb (by omega) ha q) h
theorem O_neg {a : Int} {P : AV → Led → Prop} (h : P (.int (-a)) mu) : Op1 C n At (unaryOp .USub) (.int a) mu P := by
  intro A ha G hh t v g r1 Q q
  cases r1
  exact PyProof.Rows.neg_int (s := C.S hh t) (q _ _ _ _ _ _ (.refl g) (.int _ _) h)

theorem op2_bool {f : Value → Value → Sem Value} {a b : Int} {c : Bool} {P : AV → Led → Prop}
    (hf : ∀ (A : Around) (s : Shared) (t u : Tok) (Q : Value → Shared → Prop), Q (.bool c) s → wpAny C.M A (f (.int a t) (.int b u)) Q No s) (h : P (.val (.bool c)) mu) :
    Op2 C n At f (.int a) (.int b) mu P := by
  intro A ha G hh t v u g r1 r2 Q q
  cases r1; cases r2
  exact hf A (C.S hh t) _ _ Q (q _ _ _ _ _ _ (.refl g) (.val _) h)
theorem op2_test {f : Value → Value → Sem Value} {a b : Int} {c : Bool} {P : Bool → Led → Prop}
    (hf : ∀ (A : Around) (s : Shared) (t u : Tok) (Q : Value → Shared → Prop), Q (.bool c) s → wpAny C.M A (f (.int a t) (.int b u)) Q No s) (h : P c mu) :
    Op2 C n (fun _ v b => v = Value.bool b) f (.int a) (.int b) mu P := by
  intro A ha G hh t v u g r1 r2 Q q
  cases r1; cases r2
  exact hf A (C.S hh t) _ _ Q (q _ _ _ _ _ _ (.refl g) rfl h)
theorem O_lt {a b : Int} {P : AV → Led → Prop} (h : P (.val (.bool (decide (a < b)))) mu) : Op2 C n At (compareOp .Lt) (.int a) (.int b) mu P := op2_bool (fun _ _ _ _ _ q => PySem.P.lt_int q) h
theorem O_ge {a b : Int} {P : AV → Led → Prop} (h : P (.val (.bool (decide (a ≥ b)))) mu) : Op2 C n At (compareOp .GtE) (.int a) (.int b) mu P := op2_bool (fun _ _ _ _ _ q => PySem.P.ge_int q) h
theorem B_lt {a b : Int} {P : Bool → Led → Prop} (h : P (decide (a < b)) mu) : Op2 C n (fun _ v b => v = Value.bool b) (compareOp .Lt) (.int a) (.int b) mu P := op2_test (fun _ _ _ _ _ q => PySem.P.lt_int q) h
theorem B_gt {a b : Int} {P : Bool → Led → Prop} (h : P (decide (a > b)) mu) : Op2 C n (fun _ v b => v = Value.bool b) (compareOp .Gt) (.int a) (.int b) mu P := op2_test (fun _ _ _ _ _ q => PySem.P.gt_int q) h
theorem B_eq {a b : Int} {P : Bool → Led → Prop} (h : P (a == b) mu) : Op2 C n (fun _ v b => v = Value.bool b) (compareOp .Eq) (.int a) (.int b) mu P := op2_test (fun _ _ _ _ _ q => PySem.P.eq_int q) h

/-! ### `is None` -/
theorem B_isNone_val {v : Value} {P : Bool → Led → Prop} (h : P (v == .none) mu) : Op2 C n (fun _ v b => v = Value.bool b) (compareOp .Is) (.val v) (.val .none) mu P := by
  intro A ha G hh t v u g r1 r2 Q q
  cases r1; cases r2
  exact is_none (q _ _ _ _ hh t (.refl g) rfl h)
theorem B_isNone_list {l : List AV} {P : Bool → Led → Prop} (h : P false mu) : Op2 C n (fun _ v b => v = Value.bool b) (compareOp .Is) (.list l) (.val .none) mu P := by
  intro A ha G hh t v u g r1 r2 Q q
  cases r1; cases r2
  exact is_none (q _ _ _ _ hh t (.refl g) rfl h)

/-! ### items -/
noncomputable abbrev KSub2 (C : Cfg) (n : Nat) (value slice : Expr) (a : AV) (P : AV → Led → Prop) : AV → Led → Prop := fun b mu₂ => Op2 C n At (subscriptTail value slice) a b mu₂ P
noncomputable abbrev KSub (C : Cfg) (n : Nat) (env : Env) (m : Mp) (value slice : Expr) (P : AV → Led → Prop) : AV → Led → Prop := fun a mu₁ => T C n env m slice mu₁ (KSub2 C n value slice a P)
theorem T_sub {value slice : Expr} {pos : Pos} {P : AV → Led → Prop}
    (h : T C n env m value mu (KSub C n env m value slice P)) : T C n env m (.Subscript value slice pos) mu P := by
  intro A a G hh t g V Q q
  refine Subscript_ (h A a G hh t g V _ fun v x G1 mu1 h1 t1 S1 R1 p1 => ?_)
  refine p1 A a G1 h1 t1 S1.gm (V.step S1) _ fun u y G2 mu2 h2 t2 S2 R2 p2 => ?_
  refine p2 A a G2 h2 t2 v u S2.gm (R1.mono S2.sub) R2 _ fun r z G3 mu3 h3 t3 S3 R3 p3 => ?_
  exact q r z G3 mu3 h3 t3 (S1.trans (S2.trans S3)) R3 p3
theorem item_of {l : List AV} {k : Int} {vs : List Value} {G : Heap} (I : Its G vs l) (h0 : 0 ≤ k) (h1 : k < l.length) : ∃ v y, vs[k.toNat]? = some v ∧ l[k.toNat]? = some y ∧ At G v y := by
  have : k.toNat < l.length := by omega
  obtain ⟨v, e, r⟩ := I.get (List.getElem?_eq_getElem this)
  exact ⟨v, _, e, List.getElem?_eq_getElem this, r⟩
theorem O_item {value slice : Expr} {l : List AV} {k : Int} {P : AV → Led → Prop} (h0 : 0 ≤ k) (h1 : k < l.length) (hz : l.length ≤ 1000000) (h : ∀ y, l[k.toNat]? = some y → P y mu)
    (hs : ∀ a u, subscripted slice false (.ref a) (.int k u) = operate [.ref a, .int k u] (getItem (.ref a) (.int k u)) := by intro _ _; with_unfolding_all rfl) :
    Op2 C n At (subscriptTail value slice) (.list l) (.int k) mu P := by
  intro A ha G hh t v u g r1 r2 Q q
  cases r2
  cases r1 with
  | list p hl hi =>
    obtain ⟨v, y, e1, e2, r⟩ := item_of ⟨hl, hi⟩ h0 h1
    have p' := (p.at (h' := hh) fun o e => g.sub _ o e).isList
    exact tail_any (s := C.S hh t) p'.typeIs slot_list_getitem.lookup (wpAny_getItem_list (s := C.S hh t) p' h0 (by omega) (by simpa using e1) (q _ _ _ _ hh t (.refl g) r (h y e2))) (hs _ _)
theorem O_item_tup {value slice : Expr} {l : List AV} {k : Int} {P : AV → Led → Prop} (h0 : 0 ≤ k) (h1 : k < l.length) (hz : l.length ≤ 1000000) (h : ∀ y, l[k.toNat]? = some y → P y mu)
    (hs : ∀ a u, subscripted slice false (.ref a) (.int k u) = operate [.ref a, .int k u] (getItem (.ref a) (.int k u)) := by intro _ _; with_unfolding_all rfl) :
    Op2 C n At (subscriptTail value slice) (.tup l) (.int k) mu P := by
  intro A ha G hh t v u g r1 r2 Q q
  cases r2
  cases r1 with
  | tup p hl hi =>
    obtain ⟨v, y, e1, e2, r⟩ := item_of ⟨hl, hi⟩ h0 h1
    have p' := (p.sub g.sub).isTup
    refine item_tupleT (s := C.S hh t) p' (j := k.toNat) (by omega) (by omega) ?_ (by simpa using e1) (q _ _ _ _ hh t (.refl g) r (h y e2)) (hs _ _)
    rw [hl]; unfold seqIndex?
    rw [if_neg (show ¬ k < 0 by omega)]
    dsimp only
    rw [if_pos (by simp; omega)]
theorem O_item_ref {value slice : Expr} {a : Addr} {l : List AV} {k : Int} {P : AV → Led → Prop} (e : mu a = some (.list l)) (h0 : 0 ≤ k) (h1 : k < l.length) (hz : l.length ≤ 1000000) (h : ∀ y, l[k.toNat]? = some y → P y mu)
    (hs : ∀ a u, subscripted slice false (.ref a) (.int k u) = operate [.ref a, .int k u] (getItem (.ref a) (.int k u)) := by intro _ _; with_unfolding_all rfl) :
    Op2 C n At (subscriptTail value slice) (.val (.ref a)) (.int k) mu P := by
  intro A ha G hh t v u g r1 r2 Q q
  cases r1; cases r2
  obtain ⟨_, vs, p, I⟩ := g.led a _ e
  obtain ⟨v, y, e1, e2, r⟩ := item_of I h0 h1
  exact tail_any (s := C.S hh t) p.isList.typeIs slot_list_getitem.lookup (wpAny_getItem_list (s := C.S hh t) p.isList h0 (by omega) (by simpa using e1) (q _ _ _ _ hh t (.refl g) r (h y e2))) (hs _ _)
end

/-! ### C4 -/
section
variable {K : Frag} {L : List Addr} {G h : Heap} {mu : Led}
theorem Step.alloc2 (g : Gm K G mu h) (o1 o : Obj) (ho : o.isFreed = false) : ∃ G', Step K L G mu h G' mu ((h.push o1).push o) ∧ G'.get? (h.objs.size + 1) = some o := by
  have S1 := Step.grow (L := L) g (push_sub h o1)
  obtain ⟨G', S2, e⟩ := Step.alloc (L := L) S1.gm o ho
  rw [Heap.size_push] at e
  exact ⟨G', S1.trans S2, e⟩
theorem Step.allocB (g : Gm K G mu h) {h' : Heap} {a : Addr} {o : Obj} (k : Sub h h') (hn : h.get? a = none) (e : h'.get? a = some o) : ∃ G', Step K L G mu h G' mu h' ∧ G'.get? a = some o := by
  obtain ⟨G', S, c⟩ := Step.take (L := L) (mu' := mu) g k (fun b => b == a) (fun b o' q => ⟨q, by
    cases z : b == a with
    | false => rfl
    | true => obtain ⟨o2, e2⟩ := (g.led b o' q).2.some; rw [eq_of_beq z, hn] at e2; cases e2⟩) (fun b q => .inl (by rw [eq_of_beq q]; exact hn))
  exact ⟨G', S, by rw [c]; simp only [beq_self_eq_true, Bool.or_true, ↓reduceIte]; exact e⟩
end

section
variable {C : Cfg} {n : Nat} {env : Env} {m : Mp} {mu : Led}

/-! ### slices -/
noncomputable def plainBase (value : Expr) : Bool := match value with | .Name .. => true | _ => false
theorem go_plain {value : Expr} (h : plainBase value = true) (o r : Value) : letTemporaryGo value o r = pure () := by
  cases value <;> first | rfl | cases h

theorem its_toList {G : Heap} {vs : List Value} {l : List AV} (I : Its G vs l) : vs.toArray.toList.length = l.length := by simp [I.1]
inductive KUp2 (P : AV → Led → Prop) (a : AV) (b : AV) (mu₂ : Led) : Prop
  | mk (l : List AV) (k : Int) (h1 : a = .list l ∨ ∃ c, a = .val (.ref c) ∧ mu₂ c = some (.list l)) (h2 : b = .int k) (h3 : 0 ≤ k) (h4 : l.length ≤ 1000000) (h5 : P (.list (l.take k.toNat)) mu₂)
noncomputable abbrev KUp (C : Cfg) (n : Nat) (env : Env) (m : Mp) (e : Expr) (P : AV → Led → Prop) : AV → Led → Prop := fun a mu₁ => T C n env m e mu₁ (KUp2 P a)
inductive KRun3 (P : AV → Led → Prop) (a b : AV) (c : AV) (mu₃ : Led) : Prop
  | mk (l : List AV) (j k : Int) (h1 : a = .list l) (h2 : b = .int j) (h3 : c = .int k) (h4 : 0 ≤ j) (h5 : j ≤ k) (h6 : k ≤ l.length) (h7 : l.length ≤ 1000000) (h8 : P (.list ((l.drop j.toNat).take (k.toNat - j.toNat))) mu₃)
noncomputable abbrev KRun2 (C : Cfg) (n : Nat) (env : Env) (m : Mp) (hi : Expr) (P : AV → Led → Prop) (a : AV) : AV → Led → Prop := fun b mu₂ => T C n env m hi mu₂ (KRun3 P a b)
noncomputable abbrev KRun (C : Cfg) (n : Nat) (env : Env) (m : Mp) (lo hi : Expr) (P : AV → Led → Prop) : AV → Led → Prop := fun a mu₁ => T C n env m lo mu₁ (KRun2 C n env m hi P a)
theorem T_slice_upto {value e : Expr} {p pos : Pos} {P : AV → Led → Prop} (hb : plainBase value = true)
    (h : T C n env m value mu (KUp C n env m e P)) :
    T C n env m (.Subscript value (.Slice none (some e) none p) pos) mu P := by
  intro A a G hh t g V Q q
  refine wpAny_Subscript_list_slice (h A a G hh t g V _ fun v x G1 mu1 h1 t1 S1 R1 p1 => ?_) (go_plain hb)
  rw [evalPart_none, evalPart_some]
  refine wpAny_pure (p1 A a G1 h1 t1 S1.gm (V.step S1) _ fun u y G2 mu2 h2 t2 S2 R2 p2 => ?_)
  obtain ⟨l, k, hl, rfl, hk, hz, p2⟩ := p2
  obtain ⟨c, vs, rfl, p, I⟩ : ∃ c vs, v = .ref c ∧ h2.PlainList c vs.toArray ∧ Its G2 vs l := by
    rcases hl with rfl | ⟨c, rfl, e⟩
    · cases R1 with
      | list p hl hi => exact ⟨_, _, rfl, (p.at fun o e => S2.gm.sub _ _ (S2.sub _ _ e)), ⟨hl, fun i v y e1 e2 => (hi i v y e1 e2).mono S2.sub⟩⟩
    · cases R1
      obtain ⟨_, vs, p, I⟩ := S2.gm.led c _ e
      exact ⟨c, vs, rfl, p, I⟩
  cases R2
  refine ⟨c, vs.toArray, none, some k, rfl, p.isList, by rw [List.size_toArray, I.1, sizeLine_eq]; omega, .none, .int _ _, ?_⟩
  obtain ⟨j, rfl⟩ := Int.eq_ofNat_of_zero_le hk
  rw [slicePick_upto']
  obtain ⟨G3, S3, e3⟩ := Step.alloc2 (L := []) S2.gm { cls := .type "slice", data := .fields #[.none, _, .none] } { cls := .type "list", data := .seq (vs.toArray.toList.take j).toArray } rfl
  refine q _ _ G3 mu2 _ t2 (S1.trans (S2.trans S3)) (.list (vs := vs.take j) (l := l.take j) ⟨0, (by simpa using e3 : G3.get? (h2.objs.size + 1) = some { cls := .type "list", data := .seq (vs.take j).toArray })⟩ ?_ ?_) p2
  · exact (I.take j).1
  · exact ((I.take j).mono S3.sub).2
theorem T_slice_run {value lo hi : Expr} {p pos : Pos} {P : AV → Led → Prop} (hb : plainBase value = true)
    (h : T C n env m value mu (KRun C n env m lo hi P)) :
    T C n env m (.Subscript value (.Slice (some lo) (some hi) none p) pos) mu P := by
  intro A a G hh t g V Q q
  refine wpAny_Subscript_list_slice (h A a G hh t g V _ fun v x G1 mu1 h1 t1 S1 R1 p1 => ?_) (go_plain hb)
  rw [evalPart_some, evalPart_some]
  refine p1 A a G1 h1 t1 S1.gm (V.step S1) _ fun u y G2 mu2 h2 t2 S2 R2 p2 => ?_
  refine p2 A a G2 h2 t2 S2.gm (V.step (S1.trans S2)) _ fun u' y' G3 mu3 h3 t3 S3 R3 p3 => ?_
  obtain ⟨l, j, k, rfl, rfl, rfl, h0, hjk, hkl, hz, p3⟩ := p3
  cases R2; cases R3
  cases R1 with
  | list pl hl hi =>
    rename_i vs
    have I : Its G3 vs l := ⟨hl, fun i v y e1 e2 => (hi i v y e1 e2).mono (S2.sub.trans S3.sub)⟩
    refine ⟨_, vs.toArray, some j, some k, rfl, (pl.at fun o e => S3.gm.sub _ _ (S3.sub _ _ (S2.sub _ _ e))).isList, by rw [List.size_toArray, I.1, sizeLine_eq]; omega, .int _ _, .int _ _, ?_⟩
    obtain ⟨j, rfl⟩ := Int.eq_ofNat_of_zero_le h0
    obtain ⟨k, rfl⟩ := Int.eq_ofNat_of_zero_le (show 0 ≤ k by omega)
    rw [slicePick_run _ _ _ (by rw [List.size_toArray, I.1]; omega) (by omega)]
    obtain ⟨G4, S4, e4⟩ := Step.alloc2 (L := []) S3.gm { cls := .type "slice", data := .fields #[_, _, .none] } { cls := .type "list", data := .seq ((vs.toArray.toList.drop j).take (k - j)).toArray } rfl
    refine q _ _ G4 mu3 _ t3 (S1.trans (S2.trans (S3.trans S4))) (.list (vs := (vs.drop j).take (k - j)) (l := (l.drop j).take (k - j)) ⟨0, (by simpa using e4 : G4.get? (h3.objs.size + 1) = some { cls := .type "list", data := .seq ((vs.drop j).take (k - j)).toArray })⟩ ?_ ?_) p3
    · exact ((I.drop j).take (k - j)).1
    · exact (((I.drop j).take (k - j)).mono S4.sub).2

/-! ### lists put together, repeated -/
theorem O_cat {l k : List AV} {P : AV → Led → Prop} (hz : l.length + k.length ≤ 1000000) (h : P (.list (l ++ k)) mu) : Op2 C n At (binaryOp .Add) (.list l) (.list k) mu P := by
  intro A ha G hh t v u g r1 r2 Q q
  cases r1 with
  | list p hl hi =>
    cases r2 with
    | list p2 hl2 hi2 =>
      rename_i a vs b us
      have I : Its G (vs ++ us) (l ++ k) := Its.append ⟨hl, hi⟩ ⟨hl2, hi2⟩
      obtain ⟨n1, e1⟩ := p.at (h' := hh) fun o e => g.sub _ o e
      obtain ⟨n2, e2⟩ := p2.at (h' := hh) fun o e => g.sub _ o e
      refine concat_meets (s := C.S hh t) ⟨_, e1, rfl⟩ ⟨_, e2, rfl⟩ noFill_list_add seq_list_add PySem.F.slot_list_add PySem.F.entry_list_add (PySem.F.args_list_add_2 _ _)
        (list_addW a b vs.toArray us.toArray n1 n2 none none #[] #[] (by rw [List.size_toArray, List.size_toArray, hl, hl2, sizeLine_eq]; omega)) ⟨e1, e2, ?_⟩
      obtain ⟨G2, S2, e⟩ := Step.alloc (L := []) g { cls := .type "list", data := .seq (vs.toArray ++ us.toArray) } rfl
      exact q _ _ G2 mu _ t S2 (.list (vs := vs ++ us) ⟨0, (by simpa using e : G2.get? hh.objs.size = some { cls := .type "list", data := .seq (vs ++ us).toArray })⟩ I.1 (I.mono S2.sub).2) h
theorem foldl_cat (x : Array Value) : ∀ (k : Nat) (acc : Array Value), (List.foldl (fun x1 x2 => x1 ++ x2) acc (List.replicate k x)).toList = acc.toList ++ (List.replicate k x.toList).flatten
  | 0, acc => by simp
  | k + 1, acc => by rw [List.replicate_succ, List.foldl_cons, foldl_cat x k]; simp [List.replicate_succ, List.append_assoc]
theorem flat_one {α : Type} (v : α) : ∀ k : Nat, (List.replicate k [v]).flatten = List.replicate k v
  | 0 => rfl
  | k + 1 => by rw [List.replicate_succ, List.flatten_cons, flat_one v k]; rfl
/-- [x] * k, a list that may yet change -/
theorem O_repM {x : AV} {k : Int} {P : AV → Led → Prop} (h0 : 0 ≤ k) (hz : k ≤ 1000) (h : ∀ a, mu a = none → P (.val (.ref a)) (put mu a (.list (List.replicate k.toNat x)))) :
    Op2 C n At (binaryOp .Mult) (.list [x]) (.int k) mu P := by
  intro A ha G hh t v u g r1 r2 Q q
  cases r2
  cases r1 with
  | list p hl hi =>
    rename_i tk a vs
    obtain ⟨v0, rfl⟩ : ∃ v0, vs = [v0] := by
      match vs, hl with
      | [v0], _ => exact ⟨v0, rfl⟩
    have hv : At G v0 x := hi 0 _ _ rfl rfl
    obtain ⟨n1, e1⟩ := p.at (h' := hh) fun o e => g.sub _ o e
    refine wpAny_binaryOp_repeat_ref (s := C.S hh t) (T := "list") (U := "int") (by decide) ⟨_, e1, rfl⟩ (fun s' => typeIs_int s' k tk) noFill_list_mul PySem.F.fills_int_mul PySem.F.slot_int_rmul repeat_list PySem.F.slot_int_index.lookup
      (call_meets PySem.F.slot_int_rmul (typeIs_int _ k tk) PySem.F.entry_int_rmul (PySem.F.args_int_rmul_2 _ _) (int___rmul___int_list k tk a #[v0] n1)
        ⟨e1, rfl, ⟨_, e1, rfl⟩, call_meets PySem.F.slot_list_mul ⟨_, e1, rfl⟩ PySem.F.entry_list_mul (PySem.F.args_list_mul_2 _ _)
          (AutoListH.list___mul___list_int_3 a #[v0] n1 k tk (by simp [Builtin.List.listFitsIndex]; omega) (by simp; omega) (by simp [Builtin.List.listTooLong, sizeLine]; omega))
          ⟨e1, ?_⟩⟩)
    have e : (List.foldl (fun x1 x2 => x1 ++ x2) #[] (List.replicate (if (#[v0] : Array Value).isEmpty = true then 0 else k.toNat) #[v0])) = (List.replicate k.toNat v0).toArray := by
      apply Array.toList_inj.mp
      rw [foldl_cat]; simp [flat_one]
    rw [e]
    have S2 := Step.allocM (L := []) (K := C.K) g { cls := .type "list", data := .seq (List.replicate k.toNat v0).toArray } (.list (List.replicate k.toNat x)) ⟨_, ⟨0, Heap.get?_push_size _ rfl⟩, Its.replicate _ hv⟩
    exact q _ _ G _ _ t S2 (.val _) (h _ g.fresh)
end

/-! ### C5 -/
/-! ## statements -/
inductive AFl where
  | next | brk | cont
  | ret (y : AV)
inductive FlAt (G : Heap) : Flow → AFl → Prop where
  | next : FlAt G .next .next
  | brk : FlAt G .brk .brk
  | cont : FlAt G .cont .cont
  | ret {v : Value} {y : AV} : At G v y → FlAt G (.ret v) (.ret y)

section
variable (C : Cfg) (n : Nat)
noncomputable def TX (env : Env) (m : Mp) (t : Sem Flow) (mu : Led) (P : AFl → Mp → Led → Prop) : Prop :=
  ∀ A, Aok n A → ∀ G h k, Gm C.K G mu h → Vm env G m mu h → ∀ Q : Flow → Shared → Prop,
    (∀ fl f m' G' mu' h' k', Step C.K (own env) G mu h G' mu' h' → Vm env G' m' mu' h' → FlAt G' fl f → P f m' mu' → Q fl (C.S h' k')) → wpAny C.M A t Q No (C.S h k)
/-- what is done with a value in a block, names being stored -/
noncomputable def TA (env : Env) (m : Mp) (f : Value → Sem Unit) (y : AV) (mu : Led) (P : Mp → Led → Prop) : Prop :=
  ∀ A, Aok n A → ∀ G h k v, Gm C.K G mu h → Vm env G m mu h → At G v y → ∀ Q : Unit → Shared → Prop,
    (∀ m' G' mu' h' k', Step C.K (own env) G mu h G' mu' h' → Vm env G' m' mu' h' → P m' mu' → Q () (C.S h' k')) → wpAny C.M A (f v) Q No (C.S h k)
end

theorem Step.e {K : Frag} {L : List Addr} {G h G1 h1 : Heap} {mu mu1 : Led} (x : Step K [] G mu h G1 mu1 h1) : Step K L G mu h G1 mu1 h1 := x.wide fun b hb => nomatch hb

section
variable {C : Cfg} {n : Nat} {env : Env} {m : Mp} {mu : Led} {G h : Heap} {k : Nat} {A : Around}

theorem lookup_upd {m : Mp} {x z : Str} {y u : AV} (h : List.lookup z ((x, y) :: m) = some u) : (z = x ∧ u = y) ∨ (z ≠ x ∧ m.lookup z = some u) := by
  rw [List.lookup_cons] at h
  cases q : z == x with
  | true => rw [q] at h; cases h; exact .inl ⟨eq_of_beq q, rfl⟩
  | false => rw [q] at h; exact .inr ⟨fun e => by subst e; simp at q, h⟩
/-- a name is stored: one address changes -/
theorem store_at {x : Str} {v : Value} {y : AV} {Q : Unit → Shared → Prop} {E : Value → Shared → Prop} (V : Vm env G m mu h) (r : At G v y)
    (hk : env.kindOf x = some .local ∨ (env.kindOf x = some .cell ∧ (env.cells.lookup x).isSome = true))
    (q : ∀ c h' k', (env.kindOf x = some .local ∧ c = env.locals ∨ env.kindOf x = some .cell ∧ env.cells.lookup x = some c) → h'.get? c ≠ none → (∀ b, b ≠ c → h'.get? b = h.get? b) →
      Vm env G ((x, y) :: m) mu h' → Q () (C.S h' k')) : wpAny C.M A (storeName env x v) Q E (C.S h k) := by
  have hG : ∀ b ∈ own env, G.get? b = none := fun b hb => (V.own b hb).1
  have hm : ∀ b ∈ own env, mu b = none := fun b hb => (V.own b hb).2.1
  have hl : ∀ b ∈ own env, h.get? b ≠ none := fun b hb => (V.own b hb).2.2
  have live : ∀ (h' : Heap) (c : Addr), h'.get? c ≠ none → (∀ b, b ≠ c → h'.get? b = h.get? b) → ∀ b ∈ own env, h'.get? b ≠ none := fun h' c hn k b hb => by
    by_cases z : b = c
    · subst z; exact hn
    · rw [k b z]; exact hl b hb
  rcases hk with hk | ⟨hk, hc⟩
  · obtain ⟨ml, hn⟩ := V.fr
    obtain ⟨oL, _, _, eL, dL, _⟩ := id hn
    refine wpAny_storeName_local hk (s := C.S h k) hn (fun h' hn' hs => ?_) (by rw [V.ok.kind]; rfl)
    have hn0 : h'.get? env.locals ≠ none := by obtain ⟨_, _, _, e, _⟩ := hn'; rw [e]; exact Option.some_ne_none _
    have kc : ∀ x' c, env.kindOf x' = some .cell → env.cells.lookup x' = some c → ∀ w, h.IsCell c w → h'.IsCell c w := fun x' c h1 h2 w ⟨o, e, d⟩ => by
      refine ⟨o, (hs.2 c fun z => ?_).trans e, d⟩
      subst z; rw [eL] at e; cases e; rw [dL] at d; cases d
    refine q env.locals h' _ (.inl ⟨hk, rfl⟩) hn0 hs.2 ⟨V.ok, fun b hb => ⟨hG b hb, hm b hb, live h' _ hn0 hs.2 b hb⟩, ⟨_, hn'⟩, fun x' c h1 h2 => let ⟨w, a⟩ := V.cel x' c h1 h2; ⟨w, kc x' c h1 h2 w a⟩, fun z u e => ?_⟩
    rcases lookup_upd e with ⟨rfl, rfl⟩ | ⟨ne, e⟩
    · exact ⟨v, .inl ⟨hk, _, hn', by simp⟩, r⟩
    · obtain ⟨w, a, b⟩ := V.var z u e
      refine ⟨w, ?_, b⟩
      rcases a with ⟨a1, ml', a2, a3⟩ | ⟨a1, c, a2, a3⟩
      · refine .inl ⟨a1, _, hn', ?_⟩
        rw [if_neg ne]
        obtain ⟨_, _, _, e1, d1, _, f1⟩ := hn
        obtain ⟨_, _, _, e2, d2, _, f2⟩ := a2
        have e1 : h.get? env.locals = _ := e1
        rw [e1] at e2; cases e2; rw [d1] at d2; cases d2
        rw [← f1, f2]; exact a3
      · exact .inr ⟨a1, c, a2, kc z c a1 a2 _ a3⟩
  · obtain ⟨c, hc⟩ := Option.isSome_iff_exists.mp hc
    obtain ⟨w₀, hcell⟩ := V.cel x c hk hc
    refine wpAny_storeName_cell V.ok.kind hk hc (s := C.S h k) hcell fun h' hc' hs => ?_
    have hn0 : h'.get? c ≠ none := by obtain ⟨_, e, _⟩ := hc'; rw [e]; exact Option.some_ne_none _
    have nl : env.locals ≠ c := fun z => by
      obtain ⟨ml, oL, _, _, eL, dL, _⟩ := V.fr
      obtain ⟨o, e, d⟩ := hcell
      rw [← z] at e
      have e : h.get? env.locals = _ := e
      rw [eL] at e
      cases e; rw [dL] at d; cases d
    have kn : ∀ ml, h.Ns env.locals ml → h'.Ns env.locals ml := fun ml a => a.sameBut hs nl
    refine q c h' _ (.inr ⟨hk, hc⟩) hn0 hs.2 ⟨V.ok, fun b hb => ⟨hG b hb, hm b hb, live h' c hn0 hs.2 b hb⟩, let ⟨ml, a⟩ := V.fr; ⟨ml, kn ml a⟩, fun x' c' h1 h2 => ?_, fun z u e => ?_⟩
    · by_cases z : c' = c
      · subst z; exact ⟨_, hc'⟩
      · obtain ⟨w, o, e, d⟩ := V.cel x' c' h1 h2; exact ⟨w, o, (hs.2 c' z).trans e, d⟩
    · rcases lookup_upd e with ⟨rfl, rfl⟩ | ⟨ne, e⟩
      · exact ⟨v, .inr ⟨hk, c, hc, hc'⟩, r⟩
      · obtain ⟨w, a, b⟩ := V.var z u e
        refine ⟨w, ?_, b⟩
        rcases a with ⟨a1, ml', a2, a3⟩ | ⟨a1, c', a2, o, a3, a4⟩
        · exact .inl ⟨a1, ml', kn ml' a2, a3⟩
        · exact .inr ⟨a1, c', a2, o, (hs.2 c' fun z' => ne (V.ok.inj z x c a1 hk (z' ▸ a2) hc)).trans a3, a4⟩
theorem store_ok {x : Str} {v : Value} {y : AV} {Q : Unit → Shared → Prop} {E : Value → Shared → Prop} (g : Gm C.K G mu h) (V : Vm env G m mu h) (r : At G v y)
    (hk : env.kindOf x = some .local ∨ (env.kindOf x = some .cell ∧ (env.cells.lookup x).isSome = true))
    (q : ∀ h' k', Step C.K (own env) G mu h G mu h' → Vm env G ((x, y) :: m) mu h' → Q () (C.S h' k')) : wpAny C.M A (storeName env x v) Q E (C.S h k) := by
  refine store_at V r hk fun c h' k' hc hn kp V' => q h' k' ?_ V'
  have hc : c ∈ own env := by
    rcases hc with ⟨_, rfl⟩ | ⟨a, b⟩
    · exact .head _
    · exact mem_own a b
  exact (Step.but (L := [c]) g (fun b o n e => by rw [kp b (by simpa using n)]; exact e) (fun b hb => by rw [List.mem_singleton.mp hb]; exact (V.own c hc).1) (fun b hb => by rw [List.mem_singleton.mp hb]; exact (V.own c hc).2.1)
    fun b hb => by rw [List.mem_singleton.mp hb]; exact hn).wide fun b hb => by rw [List.mem_singleton.mp hb]; exact hc

/-! ### targets -/
theorem A_name {x : Str} {px : Pos} {y : AV} {P : Mp → Led → Prop} (hk : env.kindOf x = some .local ∨ (env.kindOf x = some .cell ∧ (env.cells.lookup x).isSome = true)) (h : P ((x, y) :: m) mu) :
    TA C n env m (assign (.Name x px) env) y mu P :=
  fun _ _ _ _ _ _ g V r _ q => wpAny_assign_Name (store_ok g V r hk fun h' k' S V' => q _ _ _ h' k' S V' h)

/-! ### statements, one by one -/
noncomputable abbrev KSeq (C : Cfg) (n : Nat) (env : Env) (rest : List Stmt) (P : AFl → Mp → Led → Prop) : AFl → Mp → Led → Prop := fun f m₁ mu₁ => match f with | .next => TX C n env m₁ (execs rest env) mu₁ P | f => P f m₁ mu₁
noncomputable abbrev KRet (m : Mp) (P : AFl → Mp → Led → Prop) : AV → Led → Prop := fun y mu₁ => P (.ret y) m mu₁
noncomputable abbrev KSet (x : Str) (m : Mp) (P : AFl → Mp → Led → Prop) : AV → Led → Prop := fun y mu₁ => P .next ((x, y) :: m) mu₁
noncomputable abbrev KAsg (C : Cfg) (n : Nat) (env : Env) (m : Mp) (targets : List Expr) (P : AFl → Mp → Led → Prop) : AV → Led → Prop := fun y mu₁ => TA C n env m (fun v => assignAll v ((assignEach targets env).map (·.2))) y mu₁ (P .next)
noncomputable abbrev KExpr (m : Mp) (P : AFl → Mp → Led → Prop) : AV → Led → Prop := fun y mu₁ => y = .val .none ∧ P .next m mu₁
theorem X_nil {P : AFl → Mp → Led → Prop} (h : P .next m mu) : TX C n env m (execs [] env) mu P := fun _ _ _ _ _ g V _ q => wpAny_execs_nil (q _ _ _ _ _ _ _ (.refl g) V .next h)
theorem X_cons {st : Stmt} {rest : List Stmt} {P : AFl → Mp → Led → Prop}
    (h : TX C n env m (exec st env) mu (KSeq C n env rest P)) : TX C n env m (execs (st :: rest) env) mu P := by
  intro A a G hh t g V Q q
  refine wpAny_execs_cons (h A a G hh t g V _ fun fl f m1 G1 mu1 h1 t1 S1 V1 R1 p1 => ?_)
  cases R1 with
  | next => exact p1 A a G1 h1 t1 S1.gm V1 _ fun fl2 f2 m2 G2 mu2 h2 t2 S2 V2 R2 p2 => q _ _ _ _ _ _ _ (S1.trans S2) V2 R2 p2
  | brk => exact q _ _ _ _ _ _ _ S1 V1 .brk p1
  | cont => exact q _ _ _ _ _ _ _ S1 V1 .cont p1
  | ret r => exact q _ _ _ _ _ _ _ S1 V1 (.ret r) p1
theorem X_ret {e : Expr} {pos : Pos} {P : AFl → Mp → Led → Prop} (h : T C n env m e mu (KRet m P)) : TX C n env m (exec (.Return (some e) pos) env) mu P :=
  fun A a G hh t g V Q q => wpAny_Return_some (h A a G hh t g V _ fun v y G1 mu1 h1 t1 S1 R1 p1 => q _ _ _ _ _ _ _ S1.e (V.step S1) (.ret R1) p1)
theorem X_if {test : Expr} {body orelse : List Stmt} {pos : Pos} {P : AFl → Mp → Led → Prop}
    (h : TB C n env m test mu fun b mu₁ => if b then TX C n env m (execs body env) mu₁ P else TX C n env m (execs orelse env) mu₁ P) : TX C n env m (exec (.If test body orelse pos) env) mu P := by
  intro A a G hh t g V Q q
  refine wpAny_If (h A a G hh t g V _ fun b b' G1 mu1 h1 t1 S1 R1 p1 => ?_)
  subst R1
  cases b <;> exact p1 A a G1 h1 t1 S1.gm (V.step S1) _ fun fl2 f2 m2 G2 mu2 h2 t2 S2 V2 R2 p2 => q _ _ _ _ _ _ _ (S1.e.trans S2) V2 R2 p2
theorem X_set {x : Str} {px pos : Pos} {value : Expr} {P : AFl → Mp → Led → Prop} (hk : env.kindOf x = some .local ∨ (env.kindOf x = some .cell ∧ (env.cells.lookup x).isSome = true))
    (h : T C n env m value mu (KSet x m P)) (hs : swapsWith value (some (.Name x px)) pos.line env = pure false := by rfl) : TX C n env m (exec (.Assign [.Name x px] value pos) env) mu P := by
  intro A a G hh t g V Q q
  refine wpAny_Assign_Name (h A a G hh t g V _ fun v y G1 mu1 h1 t1 S1 R1 p1 => ?_) hs
  exact store_ok S1.gm (V.step S1) R1 hk fun h2 t2 S2 V2 => q _ _ _ _ _ _ _ (S1.e.trans S2) V2 .next p1
theorem X_assign {targets : List Expr} {pos : Pos} {value : Expr} {P : AFl → Mp → Led → Prop}
    (h : T C n env m value mu (KAsg C n env m targets P))
    (hs : swapsWithSole targets value pos.line env = pure false := by rfl) (hw : swappedStores targets value env = pure none := by rfl) : TX C n env m (exec (.Assign targets value pos) env) mu P := by
  intro A a G hh t g V Q q
  refine wpAny_Assign_stores (h A a G hh t g V _ fun v y G1 mu1 h1 t1 S1 R1 p1 => ?_) hs hw
  exact p1 A a G1 h1 t1 v S1.gm (V.step S1) R1 _ fun m2 G2 mu2 h2 t2 S2 V2 p2 => q _ _ _ _ _ _ _ (S1.e.trans S2) V2 .next p2
theorem A_one {tg : Expr} {y : AV} {P : Mp → Led → Prop} (h : TA C n env m (assign tg env) y mu P) (he : (assignEach [tg] env).map (·.2) = [assign tg env] := by rfl) :
    TA C n env m (fun v => assignAll v ((assignEach [tg] env).map (·.2))) y mu P := by
  rw [he]; exact h
theorem X_expr {e : Expr} {pos : Pos} {P : AFl → Mp → Led → Prop} (h : T C n env m e mu (KExpr m P))
    (hi : interactive env = false := by rfl) (hs : swapsWith e none pos.line env = pure false := by rfl) : TX C n env m (exec (.Expr e pos) env) mu P := by
  intro A a G hh t g V Q q
  refine wpAny_Expr (h A a G hh t g V _ fun v y G1 mu1 h1 t1 S1 R1 p1 => ?_) hi hs
  obtain ⟨rfl, p1⟩ := p1
  cases R1
  exact q _ _ _ _ _ _ _ S1.e (V.step S1) .next p1
theorem X_weak {t : Sem Flow} {m' : Mp} {P : AFl → Mp → Led → Prop} (x : Le m' m) (h : TX C n env m' t mu P) : TX C n env m t mu P :=
  fun A a G hh k g V Q q => h A a G hh k g (V.weak x) Q q
theorem TX.mono {t : Sem Flow} {P P' : AFl → Mp → Led → Prop} (h : TX C n env m t mu P) (k : ∀ f m' mu', P f m' mu' → P' f m' mu') : TX C n env m t mu P' :=
  fun A a G hh t g V Q q => h A a G hh t g V Q fun fl f m' G' mu' h' t' S V' r p => q fl f m' G' mu' h' t' S V' r (k _ _ _ p)
/-- a list of the ledger settles; the name that bore it bears the tree -/
theorem X_settle {t : Sem Flow} {x : Str} {a : Addr} {l : List AV} {P : AFl → Mp → Led → Prop} (e : mu a = some (.list l)) (hx : m.lookup x = some (.val (.ref a)))
    (h : TX C n env ((x, .list l) :: m) t (del mu a) P) : TX C n env m t mu P := by
  intro A ha G hh k g V Q q
  obtain ⟨G1, S1, R1⟩ := Step.freeze (L := []) g e
  have V1 := V.step S1
  refine h A ha G1 hh k S1.gm ⟨V1.ok, V1.own, V1.fr, V1.cel, fun z u e' => ?_⟩ Q fun fl f m' G' mu' h' t' S V' r p => q fl f m' G' mu' h' t' (S1.e.trans S) V' r p
  rcases lookup_upd e' with ⟨rfl, rfl⟩ | ⟨_, e'⟩
  · obtain ⟨v, a1, a2⟩ := V1.var z _ hx
    cases a2
    exact ⟨_, a1, R1⟩
  · exact V1.var z u e'
end

/-! ### C6 -/
theorem wNo {α : Type} {M : Model} {A : Around} {t : Sem α} {Q : α → Shared → Prop} {E : Value → Shared → Prop} {s : Shared} (h : wpAny M A t Q No s) : wpAny M A t Q E s := wpAny_mono h (fun _ _ x => x) fun _ _ f => f.elim

/-- what a value gives when it is walked -/
inductive Iter : AV → List AV → Prop where
  | list (l : List AV) : Iter (.list l) l
  | tup (l : List AV) : Iter (.tup l) l
  | range {a b c : Int} (n : Nat) : Builtin.Range.small a b c = true → Builtin.Range.rangeSize a b c = n → Iter (.range a b c) ((List.range n).map fun i => .int (a + (i : Nat) * c))
theorem Iter.range1 {b : Int} (h : 0 ≤ b) (hz : b ≤ 1000000) : Iter (.range 0 b 1) ((List.range b.toNat).map fun i => .int (i : Nat)) := by
  have := Iter.range (a := 0) (b := b) (c := 1) b.toNat (small_one (by omega) (by omega) (by omega) (by omega)) (by rw [rangeSize_one]; split <;> omega)
  simpa using this
theorem Iter.range2 {a b : Int} (h0 : 0 ≤ a) (h : a ≤ b) (hz : b ≤ 1000000) : Iter (.range a b 1) ((List.range (b - a).toNat).map fun i => .int (a + (i : Nat))) := by
  have := Iter.range (a := a) (b := b) (c := 1) (b - a).toNat (small_one (by omega) (by omega) (by omega) (by omega)) (by rw [rangeSize_one]; split <;> omega)
  simpa using this

section
variable {C : Cfg} {n : Nat} {env : Env} {m : Mp} {mu : Led} {G h : Heap} {k : Nat} {A : Around}

/-- a walk is begun: the walker I is a fresh thing -/
theorem iter_ok {v : Value} {it : AV} {items : List AV} {Q : Value → Shared → Prop} (hd : A.handled = none) (g : Gm C.K G mu h) (r : At G v it) (hi : Iter it items)
    (q : ∀ (o : Obj) fp P St, o.isFreed = false → Walks C.prog C.w A h.objs.size fp [h.objs.size] items.length P St → St 0 (h.push o) → (∀ b ∈ fp, b = h.objs.size ∨ G.get? b ≠ none) →
      (∀ i v y, P i v → items[i]? = some y → At G v y) → (∀ i h', St i h' → h'.get? h.objs.size ≠ none) → Q (.ref h.objs.size) (C.S (h.push o) k)) : wpAny C.M A (pyIter v) Q No (C.S h k) := by
  cases hi with
  | list l =>
    cases r with
    | list p hl hi =>
      rename_i a vs
      have p' := (p.at (h' := h) fun o e => g.sub _ o e).isList
      obtain ⟨_, e⟩ := p
      have ne : a ≠ h.objs.size := fun z => by have := g.sub _ _ e; rw [z, get_fresh] at this; cases this
      refine wpAny_pyIter_list (s := C.S h k) p' (q _ [h.objs.size, a] (fun i v => vs.toArray[i]? = some v) (fun i h' => h'.IsListIter h.objs.size a i ∧ h'.IsList a vs.toArray) rfl ?_ ⟨⟨_, Heap.get?_push_size _ rfl, rfl, rfl⟩, p'.push _⟩ (fun b hb => ?_) (fun i v y e1 e2 => hi i v y (by simpa using e1) e2) fun i h' z => by obtain ⟨⟨_, e, _⟩, _⟩ := z; rw [e]; exact Option.some_ne_none _)
      · have W := Walks.list (prog := C.prog) (w := C.w) hd h.objs.size a ne vs.toArray
        rw [show vs.toArray.size = items.length from (List.size_toArray ..).trans hl] at W; exact W
      · rcases List.mem_cons.mp hb with rfl | hb
        · exact .inl rfl
        · rw [List.mem_singleton.mp hb, e]; exact .inr (Option.some_ne_none _)
  | tup l =>
    cases r with
    | tup p hl hi =>
      rename_i a vs
      have p' : h.IsTuple a vs.toArray := (p.sub g.sub).isTup
      obtain ⟨_, e⟩ := p
      have ne : a ≠ h.objs.size := fun z => by have := g.sub _ _ e; rw [z, get_fresh] at this; cases this
      refine wpAny_pyIter_tuple (s := C.S h k) p' (q _ [h.objs.size, a] (fun i v => vs.toArray[i]? = some v) (fun i h' => h'.IsTupleIter h.objs.size a i ∧ h'.IsTuple a vs.toArray) rfl ?_ ⟨⟨_, Heap.get?_push_size _ rfl, rfl, rfl⟩, p'.push _⟩ (fun b hb => ?_) (fun i v y e1 e2 => hi i v y (by simpa using e1) e2) fun i h' z => by obtain ⟨⟨_, e, _⟩, _⟩ := z; rw [e]; exact Option.some_ne_none _)
      · have W := Walks.tuple (prog := C.prog) (w := C.w) hd h.objs.size a ne vs.toArray
        rw [show vs.toArray.size = items.length from (List.size_toArray ..).trans hl] at W; exact W
      · rcases List.mem_cons.mp hb with rfl | hb
        · exact .inl rfl
        · rw [List.mem_singleton.mp hb, e]; exact .inr (Option.some_ne_none _)
  | range n hs hn =>
    cases r with
    | range p =>
      rename_i a b c rr t u v
      refine wpAny_pyIter_range (s := C.S h k) (g.sub _ _ p) hs (q _ [h.objs.size] (fun i v => ∃ t, v = .int (a + (i : Nat) * c) t) (fun i h' => IsRangeIter h' h.objs.size (a + (i : Nat) * c) ((n : Int) - (i : Nat)) c) rfl ?_ ?_ (fun b hb => .inl (List.mem_singleton.mp hb)) ?_ fun i h' z => by rw [z]; exact Option.some_ne_none _)
      · have W := Walks.range (prog := C.prog) (w := C.w) hd h.objs.size a c n
        simpa using W
      · rw [hn]
        have := Heap.get?_push_size h (o := ({ cls := .type "range_iterator", data := .fields #[rawInt a, rawInt (n : Int), rawInt c] } : Obj)) rfl
        simpa using this
      · rintro i v y ⟨t, rfl⟩ e
        rw [List.getElem?_map] at e
        cases z : (List.range n)[i]? with
        | none => rw [z] at e; cases e
        | some j =>
          rw [z] at e
          have hj : j = i := by
            have := List.getElem?_eq_some_iff.mp z
            obtain ⟨_, w⟩ := this
            simpa using w.symm
          subst hj
          cases e
          exact .int _ _

theorem Vm.but {h' : Heap} {I : Addr} (V : Vm env G m mu h) (hI : I ∉ Mine.own env) (kp : ∀ b o, b ≠ I → h.get? b = some o → h'.get? b = some o) : Vm env G m mu h' := by
  have kp' : ∀ b ∈ Mine.own env, ∀ o, h.get? b = some o → h'.get? b = some o := fun b hb o e => kp b o (fun z => hI (z ▸ hb)) e
  refine ⟨V.ok, fun b hb => ⟨(V.own b hb).1, (V.own b hb).2.1, ?_⟩, let ⟨ml, a⟩ := V.fr; ⟨ml, a.at' fun o e => kp' _ (.head _) o e⟩, fun x c h1 h2 => let ⟨w, o, e, d⟩ := V.cel x c h1 h2; ⟨w, o, kp' _ (mem_own h1 h2) o e, d⟩, fun z u e => let ⟨w, a, b⟩ := V.var z u e; ⟨w, a.at kp', b⟩⟩
  have := (V.own b hb).2.2
  cases q : h.get? b with
  | none => exact absurd q this
  | some o => rw [kp' b hb o q]; exact Option.some_ne_none _

/-- a walk's end: the walker was a fresh thing -/
theorem Step.loop {L : List Addr} {o : Obj} {G' h' h2 : Heap} {mu' : Led} (S : Step C.K (h.objs.size :: L) G mu (h.push o) G' mu' h') (hG : G'.get? h.objs.size = none) (hM : mu' h.objs.size = none)
    (kp : ∀ b o, b ≠ h.objs.size → h'.get? b = some o → h2.get? b = some o) : Step C.K L G mu h G' mu' h2 := by
  have k := push_sub h o
  have k' : ∀ b, h.get? b ≠ none → (h.push o).get? b ≠ none := fun b e => by
    cases q : h.get? b with
    | none => exact absurd q e
    | some o' => rw [k b o' q]; exact Option.some_ne_none _
  have ne : ∀ b, h.get? b ≠ none → b ≠ h.objs.size := fun b e z => e (by rw [z]; exact get_fresh h)
  refine ⟨S.sub, ⟨fun b o e => kp b o (fun z => by rw [z, hG] at e; cases e) (S.gm.sub b o e), fun a o e => ⟨(S.gm.led a o e).1, (S.gm.led a o e).2.mono (Sub.refl _) fun o' e' => kp a o' (fun z => by rw [z, hM] at e; cases e) e'⟩, S.gm.cx⟩,
    fun b o' e n q => kp b o' (ne b (by rw [e]; exact Option.some_ne_none _)) (S.keep b o' (k _ _ e) (fun z => ?_) q), fun b e => S.newG b (k' b e), fun b e => S.newM b (k' b e), fun b e => ?_⟩
  · rcases List.mem_cons.mp z with rfl | z
    · rw [get_fresh] at e; cases e
    · exact n z
  · have := S.live b (k' b e)
    cases q : h'.get? b with
    | none => exact absurd q this
    | some o' => rw [kp b o' (ne b e) q]; exact Option.some_ne_none _

noncomputable abbrev TurnK (J : Nat → Mp → Led → Prop) (i : Nat) : AFl → Mp → Led → Prop := fun f m'' mu'' => f = .next ∧ ∃ m₃, Le m₃ m'' ∧ J (i + 1) m₃ mu''
inductive ForK (C : Cfg) (n : Nat) (env : Env) (m : Mp) (x : Str) (body : List Stmt) (P : AFl → Mp → Led → Prop) (it : AV) (mu₁ : Led) : Prop
  | mk (items : List AV) (hi : Iter it items) (J : Nat → Mp → Led → Prop) (j0 : J 0 m mu₁) (turn : ∀ i m' mu' y, items[i]? = some y → J i m' mu' → TX C n env ((x, y) :: m') (execs body env) mu' (TurnK J i)) (done : ∀ m' mu', J items.length m' mu' → P .next m' mu')
theorem X_for {x : Str} {px pos : Pos} {iter : Expr} {body : List Stmt} {P : AFl → Mp → Led → Prop}
    (hk : env.kindOf x = some .local ∨ (env.kindOf x = some .cell ∧ (env.cells.lookup x).isSome = true))
    (h : T C n env m iter mu (ForK C n env m x body P))
    (hs : ∀ x, foldedSetIterable iter env x = pure x := by intro _; rfl) : TX C n env m (exec (.For (.Name x px) iter body [] pos) env) mu P := by
  intro A a G hh t g V Q q
  refine wpAny_For (h A a G hh t g V _ fun v it G1 mu1 h1 t1 S1 R1 p1 => ?_) hs
  obtain ⟨items, hit, J, J0, turn, done⟩ := p1
  have V1 := V.step S1
  refine iter_ok a.hd S1.gm R1 hit fun o fp Pv St ho W st hfp hP hlv => ?_
  have hIo : h1.objs.size ∉ own env := fun hb => (V1.own _ hb).2.2 (get_fresh h1)
  have hIm : mu1 h1.objs.size = none := S1.gm.fresh
  have hIG : G1.get? h1.objs.size = none := by
    cases e : G1.get? h1.objs.size with
    | none => rfl
    | some o => have := S1.gm.sub _ _ e; rw [get_fresh] at this; cases this
  have hIl : (h1.push o).get? h1.objs.size ≠ none := by rw [Heap.get?_push_size _ ho]; exact Option.some_ne_none _
  have S0 : Step C.K (h1.objs.size :: own env) G1 mu1 (h1.push o) G1 mu1 (h1.push o) := .refl (Step.grow (L := []) S1.gm (push_sub h1 o)).gm
  have V0 : Vm env G1 m mu1 (h1.push o) := V1.step (Step.grow S1.gm (push_sub h1 o))
  refine codeAny_forLoop (fun N s' => ∃ i m' G' mu' h' k', s' = C.S h' k' ∧ Step C.K (h1.objs.size :: own env) G1 mu1 (h1.push o) G' mu' h' ∧ Vm env G' m' mu' h' ∧ St i h' ∧ J i m' mu' ∧ i ≤ items.length ∧ N = items.length + 1 - i)
    ?_ (items.length + 1) ⟨0, m, G1, mu1, h1.push o, t1, rfl, S0, V0, st, J0, Nat.zero_le _, rfl⟩
  rintro N s' ⟨i, m', G', mu', h', k', rfl, S', V', st', J', hle, rfl⟩
  have hIm' : mu' h1.objs.size = none := S'.newM _ hIl hIm
  have hIG' : G'.get? h1.objs.size = none := S'.newG _ hIl hIm hIG
  by_cases hlt : i < items.length
  · refine W.item i (C.S h' k') _ _ hlt st' fun w h2 k2 hw st2 kp => ?_
    have kp' : ∀ b o, b ≠ h1.objs.size → h'.get? b = some o → h2.get? b = some o := fun b o n e => kp b o (by simpa using n) e
    have hl2 : h2.get? h1.objs.size ≠ none := hlv _ _ st2
    have S2 : Step C.K (h1.objs.size :: own env) G' mu' h' G' mu' h2 := (Step.but (L := [h1.objs.size]) S'.gm (fun b o n e => kp' b o (by simpa using n) e) (fun b hb => by rw [List.mem_singleton.mp hb]; exact hIG') (fun b hb => by rw [List.mem_singleton.mp hb]; exact hIm') fun b hb => by rw [List.mem_singleton.mp hb]; exact hl2).wide fun b hb => by rw [List.mem_singleton.mp hb]; exact .head _
    have V2 := V'.but hIo kp'
    have hy : items[i]? = some items[i] := List.getElem?_eq_getElem hlt
    have R2 : At G' w items[i] := (hP i w _ hw hy).mono S'.sub
    refine wpAny_assign_Name (store_ok S2.gm V2 R2 hk fun h3 k3 S3 V3 => ?_)
    refine wNo (turn i m' mu' _ hy J' A a G' h3 k3 S3.gm V3 _ fun fl f m4 G4 mu4 h4 k4 S4 V4 R4 p4 => ?_)
    obtain ⟨rfl, m₃, le, J4⟩ := p4
    cases R4
    refine ⟨items.length + 1 - (i + 1), by omega, i + 1, m₃, G4, mu4, h4, k4, rfl, S'.trans (S2.trans ((S3.trans S4).wide fun b hb => .tail _ hb)), V4.weak le, ?_, J4, hlt, rfl⟩
    have S34 := S3.trans S4
    refine W.frame (i + 1) h2 h4 st2 fun b hb o e => ?_
    rcases hfp b hb with rfl | hg
    · exact S34.keep _ o e hIo hIm'
    · cases q : G1.get? b with
      | none => exact absurd q hg
      | some o1 =>
        have e1 := S'.sub _ _ q
        have e2 := S2.gm.sub _ _ e1
        rw [e] at e2; cases e2
        exact S34.gm.sub _ _ (S34.sub _ _ e1)
  · have : i = items.length := by omega
    subst this
    refine W.done (C.S h' k') _ _ st' fun h2 k2 kp => wpAny_execs_nil ?_
    have kp' : ∀ b o, b ≠ h1.objs.size → h'.get? b = some o → h2.get? b = some o := fun b o n e => kp b o (by simpa using n) e
    exact q _ _ _ _ _ _ _ (S1.e.trans (Step.loop S' hIG' hIm' kp')) (V'.but hIo kp') .next (done m' mu' J')
end

/-! ### C7 -/
/-- the block of a comprehension -/
noncomputable def cEnv (env : Env) (scope : Scope) (cl : List (Str × Addr)) (L : Addr) : Env :=
  { scope := relabel scope env, locals := L, globals := env.globals, cells := cellsFrom (L + 1) scope.names cl, qual := env.qual, func := none, code := env.code, frame := env.frame, builtins := env.builtins }

theorem newComp_ok {M : Model} {A : Around} {E : Value → Shared → Prop} {s : Shared} {env : Env} {scope : Scope} {cl : List (Str × Addr)} {Q : Env → Shared → Prop}
    (q : Q { scope := scope, locals := s.heap.objs.size, globals := env.globals, cells := cellsFrom (s.heap.objs.size + 1) scope.names cl, qual := env.qual, func := none, code := env.code, frame := env.frame, builtins := env.builtins }
      { s with heap := pushCells (s.heap.push { cls := .type "dict", data := .dict #[] }) scope.names }) :
    wpAny M A (newFunctionEnv scope env.globals cl [] env.qual none .none (some env)) Q E s := by
  simp only [newFunctionEnv, Option.isSome_some, if_true]
  refine wpAny_bind (wpAny_alloc ?_)
  refine wpAny_bind (wpAny_layCells _ (fun name kind cells => by cases hkc : kind == NameKind.cell <;> simp [hkc]) _ _ _ _ ?_)
  rw [show ({ s with heap := s.heap.push { cls := .type "dict", data := .dict #[] } } : Shared).heap.objs.size = s.heap.objs.size + 1 from Heap.size_push ..]
  refine wpAny_bind ?_
  rw [List.forIn_nil]
  exact wpAny_pure (wpAny_pure q)

theorem cells_mem : ∀ (names : List (Str × NameKind)) (h : Heap) (acc : List (Str × Addr)) (p : Str × Addr), p ∈ cellsFrom h.objs.size names acc →
    p ∈ acc ∨ (h.objs.size ≤ p.2 ∧ (p.1, NameKind.cell) ∈ names ∧ (pushCells h names).IsCell p.2 none)
  | [], _, _, _, hp => .inl hp
  | (name, kind) :: r, h, acc, p, hp => by
    unfold cellsFrom at hp
    unfold pushCells
    split at hp
    · rename_i hk
      rw [if_pos hk]
      have hk' : kind = .cell := by simpa using hk
      subst hk'
      have e : (h.push { cls := .type "cell", data := .cell none }).objs.size = h.objs.size + 1 := Heap.size_push ..
      rw [← e] at hp
      rcases cells_mem r _ _ p hp with hp | ⟨a, b, c⟩
      · rcases List.mem_cons.mp hp with rfl | hp
        · exact .inr ⟨Nat.le_refl _, .head _, ⟨_, pushCells_keeps r _ _ _ (Heap.get?_push_size _ rfl), rfl⟩⟩
        · exact .inl hp
      · exact .inr ⟨by rw [e] at a; omega, .tail _ b, c⟩
    · rename_i hk
      rw [if_neg hk]
      rcases cells_mem r h acc p hp with hp | ⟨a, b, c⟩
      · exact .inl hp
      · exact .inr ⟨a, .tail _ b, c⟩
theorem cells_apart : ∀ (names : List (Str × NameKind)) (h : Heap) (acc : List (Str × Addr)) (p q : Str × Addr), p ∈ cellsFrom h.objs.size names acc → q ∈ cellsFrom h.objs.size names acc →
    p.2 = q.2 → h.objs.size ≤ p.2 → (∀ a ∈ acc, a.2 < h.objs.size) → p.1 = q.1
  | [], _, _, p, _, hp, _, _, hl, ha => absurd (ha p hp) (Nat.not_lt.mpr hl)
  | (name, kind) :: r, h, acc, p, q, hp, hq, e, hl, ha => by
    unfold cellsFrom at hp hq
    split at hp
    · rename_i hk
      rw [if_pos hk] at hq
      have es : (h.push { cls := .type "cell", data := .cell none }).objs.size = h.objs.size + 1 := Heap.size_push ..
      rw [← es] at hp hq
      by_cases hlt : h.objs.size + 1 ≤ p.2
      · refine cells_apart r _ _ p q hp hq e (by rw [es]; exact hlt) fun a ha' => ?_
        rw [es]
        rcases List.mem_cons.mp ha' with rfl | ha'
        · exact Nat.lt_succ_self _
        · exact Nat.lt_succ_of_lt (ha a ha')
      · have hpn : p.2 = h.objs.size := Nat.le_antisymm (Nat.le_of_lt_succ (Nat.lt_of_not_le hlt)) hl
        have one : ∀ x : Str × Addr, x ∈ cellsFrom (h.push { cls := .type "cell", data := .cell none }).objs.size r ((name, h.objs.size) :: acc) → x.2 = h.objs.size → x.1 = name := fun x hx hx2 => by
          rcases cells_mem r _ _ x hx with hx | ⟨a, _, _⟩
          · rcases List.mem_cons.mp hx with rfl | hx
            · rfl
            · exact absurd hx2 (Nat.ne_of_lt (ha x hx))
          · rw [es] at a; exact absurd (hx2 ▸ a) (Nat.not_succ_le_self _)
        rw [one p hp hpn, one q hq (by rw [← e]; exact hpn)]
    · rename_i hk
      rw [if_neg hk] at hq
      exact cells_apart r h acc p q hp hq e hl ha
theorem cells_look {z : Str} : ∀ (names : List (Str × NameKind)) (n : Nat) (acc : List (Str × Addr)), names.all (fun p => !(p.1 == z && p.2 == .cell)) = true → (cellsFrom n names acc).lookup z = acc.lookup z
  | [], _, _, _ => rfl
  | (name, kind) :: r, n, acc, h => by
    rw [List.all_cons, Bool.and_eq_true] at h
    unfold cellsFrom
    split
    · rename_i hk
      rw [cells_look r _ _ h.2, List.lookup_cons]
      have h1 := h.1
      have : (z == name) = false := by
        cases q : z == name with
        | false => rfl
        | true => rw [eq_of_beq q] at h1; simp only [beq_self_eq_true, Bool.true_and, hk, Bool.not_true] at h1; cases h1
      rw [this]
    · exact cells_look r _ _ h.2
theorem relabel_look {env : Env} {scope : Scope} (hf : env.scope.kind = .function) {z : Str} {k : NameKind} (h : scope.names.lookup z = some k) :
    (relabel scope env).names.lookup z = some (if k == .free && env.kindOf z == some .cell then .cell else k) := by
  show (scope.names.map _).lookup z = _
  generalize scope.names = names at h
  induction names with
  | nil => cases h
  | cons p r ih =>
    obtain ⟨n, k'⟩ := p
    rw [List.lookup_cons] at h
    show List.lookup z ((if (k' == NameKind.free && env.scope.kind == .function && env.kindOf n == some .cell) = true then (n, NameKind.cell) else (n, k')) :: _) = _
    cases q : z == n with
    | true =>
      rw [q] at h; cases h
      rw [eq_of_beq q]
      simp only [hf, beq_self_eq_true, Bool.and_true]
      cases c : (k == NameKind.free && env.kindOf n == some .cell) <;> simp [List.lookup_cons]
    | false =>
      rw [q] at h
      have := ih h
      cases c : (k' == NameKind.free && env.scope.kind == .function && env.kindOf n == some .cell)
      · rw [if_neg Bool.false_ne_true, List.lookup_cons, q]; exact this
      · rw [if_pos rfl, List.lookup_cons, q]; exact this

noncomputable def cap (env : Env) (scope : Scope) (cl : List (Str × Addr)) (z : Str) : Bool :=
  (scope.names.lookup z == some .free) && (env.kindOf z == some .cell) && scope.names.all (fun p => !(p.1 == z && p.2 == .cell)) && (cl.lookup z).isSome
noncomputable def clOk (env : Env) (cl : List (Str × Addr)) : Bool := cl.all fun p => env.cells.lookup p.1 == some p.2 && env.kindOf p.1 == some .cell

section
variable {K : Frag} {env : Env} {m : Mp} {mu : Led} {G h : Heap}
theorem comp_vm {scope : Scope} {cl : List (Str × Addr)} {m' : Mp} (g : Gm K G mu h) (V : Vm env G m mu h) (hk : scope.kind = .function) (hcl : clOk env cl = true) (hm : ∀ p ∈ m', m.lookup p.1 = some p.2 ∧ cap env scope cl p.1 = true) :
    Vm (cEnv env scope cl h.objs.size) G m' mu (pushCells (h.push { cls := .type "dict", data := .dict #[] }) scope.names) := by
  have es : (h.push { cls := .type "dict", data := .dict #[] }).objs.size = h.objs.size + 1 := Heap.size_push ..
  have kp : Sub h (pushCells (h.push { cls := .type "dict", data := .dict #[] }) scope.names) := fun b o e => pushCells_keeps _ _ _ _ (Heap.get?_push_of_some _ e)
  have hcl' : ∀ p ∈ cl, env.cells.lookup p.1 = some p.2 ∧ env.kindOf p.1 = some .cell := fun p hp => by
    have := List.all_eq_true.mp hcl p hp
    rw [Bool.and_eq_true] at this
    exact ⟨eq_of_beq this.1, eq_of_beq this.2⟩
  have hG : ∀ b, h.objs.size ≤ b → G.get? b = none := fun b hb => by
    cases e : G.get? b with
    | none => rfl
    | some o => exact absurd (Heap.lt_size (g.sub _ _ e)) (Nat.not_lt.mpr hb)
  have hM : ∀ b, h.objs.size ≤ b → mu b = none := fun b hb => by
    cases e : mu b with
    | none => rfl
    | some o => obtain ⟨o', e'⟩ := (g.led _ _ e).2.some; exact absurd (Heap.lt_size e') (Nat.not_lt.mpr hb)
  have memC : ∀ p, p ∈ cellsFrom (h.objs.size + 1) scope.names cl → p ∈ cl ∨ (h.objs.size + 1 ≤ p.2 ∧ (p.1, NameKind.cell) ∈ scope.names ∧ (pushCells (h.push { cls := .type "dict", data := .dict #[] }) scope.names).IsCell p.2 none) := fun p hp => by
    rw [← es] at hp ⊢; exact cells_mem _ _ _ p hp
  have old : ∀ p ∈ cl, p.2 < h.objs.size := fun p hp => by
    have := (V.own p.2 (mem_own (hcl' p hp).2 (hcl' p hp).1)).2.2
    cases e : h.get? p.2 with
    | none => exact absurd e this
    | some o => exact Heap.lt_size e
  refine ⟨⟨hk, V.ok.g, V.ok.b, fun x y c _ _ h3 h4 => ?_⟩, fun b hb => ?_, ?_, fun x c h1 h2 => ?_, fun z u e => ?_⟩
  · have h3 := mem_of_lookup (show (cellsFrom (h.objs.size + 1) scope.names cl).lookup x = some c from h3)
    have h4 := mem_of_lookup (show (cellsFrom (h.objs.size + 1) scope.names cl).lookup y = some c from h4)
    by_cases hc : h.objs.size + 1 ≤ c
    · rw [← es] at h3 h4
      exact cells_apart _ _ _ (x, c) (y, c) h3 h4 rfl (by rw [es]; exact hc) fun a ha => by rw [es]; exact Nat.lt_succ_of_lt (old a ha)
    · have l3 : (x, c) ∈ cl := (memC _ h3).elim id fun z => absurd z.1 hc
      have l4 : (y, c) ∈ cl := (memC _ h4).elim id fun z => absurd z.1 hc
      exact V.ok.inj x y c (hcl' _ l3).2 (hcl' _ l4).2 (hcl' _ l3).1 (hcl' _ l4).1
  · rcases List.mem_cons.mp hb with rfl | hb
    · refine ⟨hG _ (Nat.le_refl _), hM _ (Nat.le_refl _), ?_⟩
      show (pushCells _ _).get? h.objs.size ≠ none
      rw [pushCells_keeps _ _ _ _ (Heap.get?_push_size _ rfl)]; exact Option.some_ne_none _
    · obtain ⟨p, hp, rfl⟩ := List.mem_map.mp hb
      rcases memC p (List.mem_filter.mp hp).1 with hp | ⟨a, _, o, e, _⟩
      · obtain ⟨b1, b2, b3⟩ := V.own p.2 (mem_own (hcl' p hp).2 (hcl' p hp).1)
        refine ⟨b1, b2, ?_⟩
        cases e : h.get? p.2 with
        | none => exact absurd e b3
        | some o => rw [kp _ _ e]; exact Option.some_ne_none _
      · exact ⟨hG _ (by omega), hM _ (by omega), by rw [e]; exact Option.some_ne_none _⟩
  · exact ⟨_, (Heap.Ns.new h (.type "dict")).keeps (pushCells_keeps _ _)⟩
  · rcases memC (x, c) (mem_of_lookup (show (cellsFrom (h.objs.size + 1) scope.names cl).lookup x = some c from h2)) with hp | ⟨_, _, e⟩
    · obtain ⟨w, e⟩ := V.cel x c (hcl' _ hp).2 (hcl' _ hp).1
      exact ⟨w, e.keeps kp⟩
    · exact ⟨_, e⟩
  · obtain ⟨e1, e2⟩ := hm (z, u) (mem_of_lookup e)
    unfold cap at e2
    simp only [Bool.and_eq_true] at e2
    obtain ⟨⟨⟨c1, c2⟩, c3⟩, c4⟩ := e2
    have c1 := eq_of_beq c1
    have c2' : env.kindOf z = some .cell := eq_of_beq c2
    obtain ⟨c, hc⟩ := Option.isSome_iff_exists.mp c4
    have hc' := hcl' (z, c) (mem_of_lookup hc)
    obtain ⟨v, a, b⟩ := V.var z u e1
    refine ⟨v, .inr ⟨?_, c, ?_, ?_⟩, b⟩
    · show (relabel scope env).names.lookup z = some .cell
      rw [relabel_look V.ok.kind c1, c2']; rfl
    · show (cellsFrom (h.objs.size + 1) scope.names cl).lookup z = some c
      rw [cells_look _ _ _ c3]; exact hc
    · rcases a with ⟨a, _⟩ | ⟨_, c', a, d⟩
      · rw [c2'] at a; cases a
      · rw [hc'.1] at a; cases a
        exact d.keeps kp

theorem Step.junk {L : List Addr} {G' h' h2 : Heap} {mu' : Led} (S : Step K L G mu h G' mu' h') {c : Addr} (hh : h.get? c = none) (hG : G'.get? c = none) (hM : mu' c = none) (kp : ∀ b o, b ≠ c → h'.get? b = some o → h2.get? b = some o) :
    Step K L G mu h G' mu' h2 := by
  have ne : ∀ b, h.get? b ≠ none → b ≠ c := fun b e z => e (by rw [z]; exact hh)
  refine ⟨S.sub, ⟨fun b o e => kp b o (fun z => by rw [z, hG] at e; cases e) (S.gm.sub b o e), fun a o e => ⟨(S.gm.led a o e).1, (S.gm.led a o e).2.mono (Sub.refl _) fun o' e' => kp a o' (fun z => by rw [z, hM] at e; cases e) e'⟩, S.gm.cx⟩,
    fun b o' e n q => kp b o' (ne b (by rw [e]; exact Option.some_ne_none _)) (S.keep b o' e n q), fun b e => S.newG b e, fun b e => S.newM b e, fun b e => ?_⟩
  have := S.live b e
  cases q : h'.get? b with
  | none => exact absurd q this
  | some o' => rw [kp b o' (ne b e) q]; exact Option.some_ne_none _
theorem Step.adopt {L : List Addr} {G' h' : Heap} {mu' : Led} (S : Step K L G mu h G' mu' h') {c : Addr} (hh : h.get? c = none) (hM : mu' c = none) :
    ∃ G'', Step K L G mu h G'' mu' h' ∧ Sub G' G'' ∧ G''.get? c = h'.get? c ∧ ∀ b, b ≠ c → G''.get? b = G'.get? b := by
  obtain ⟨G'', a, b, e⟩ := S.gm.take (mu' := mu') (fun b => b == c) fun a o e => ⟨e, by
    cases q : a == c with
    | false => rfl
    | true => rw [eq_of_beq q, hM] at e; cases e⟩
  have ne : ∀ b, b ≠ c → G''.get? b = G'.get? b := fun b n => by
    have : (b == c) = false := by
      cases q : b == c with
      | false => rfl
      | true => exact absurd (eq_of_beq q) n
    rw [e]
    cases q : G'.get? b with
    | none => simp [this]
    | some o => simp [S.gm.sub _ _ q]
  refine ⟨G'', ⟨S.sub.trans a, b, S.keep, fun x h1 h2 h3 => ?_, S.newM, S.live⟩, a, by rw [e]; simp, ne⟩
  rw [ne x fun z => h1 (z ▸ hh)]; exact S.newG x h1 h2 h3
end

/-! ### C8 -/
theorem own_cEnv {env : Env} {scope : Scope} {cl : List (Str × Addr)} {h : Heap} (hcl : clOk env cl = true) {b : Addr} (hb : b ∈ own (cEnv env scope cl h.objs.size)) : b = h.objs.size ∨ b ∈ own env ∨ h.objs.size + 1 ≤ b := by
  rcases List.mem_cons.mp hb with rfl | hb
  · exact .inl rfl
  · obtain ⟨p, hp, rfl⟩ := List.mem_map.mp hb
    have hp := (List.mem_filter.mp hp).1
    have es : (h.push { cls := .type "dict", data := .dict #[] }).objs.size = h.objs.size + 1 := Heap.size_push ..
    have hp : p ∈ cellsFrom (h.objs.size + 1) scope.names cl := hp
    rw [← es] at hp
    rcases cells_mem _ _ _ p hp with hp | ⟨a, _, _⟩
    · have := List.all_eq_true.mp hcl p hp
      rw [Bool.and_eq_true] at this
      exact .inr (.inl (mem_own (eq_of_beq this.2) (eq_of_beq this.1)))
    · rw [es] at a; exact .inr (.inr a)

theorem neK (a k : Nat) (h : 0 < k) : @Ne Addr a (a + k) := Nat.ne_of_lt (Nat.lt_add_of_pos_right h)
theorem lookup_mem : ∀ {m : Mp} {p : Str × AV}, p ∈ m → ∃ u, m.lookup p.1 = some u
  | (x, y) :: r, p, hp => by
    rw [List.lookup_cons]
    cases q : p.1 == x with
    | true => exact ⟨y, rfl⟩
    | false =>
      rcases List.mem_cons.mp hp with rfl | hp
      · simp at q
      · exact lookup_mem hp
theorem lookup_self {m m' : Mp} (hm : ∀ p ∈ m', m.lookup p.1 = some p.2) {p : Str × AV} (hp : p ∈ m') : m'.lookup p.1 = some p.2 := by
  obtain ⟨u, e⟩ := lookup_mem hp
  have := hm _ (mem_of_lookup e)
  rw [hm p hp] at this
  rw [e, Option.some.inj this]

/-- the target of a comprehension is the comprehension's own -/
noncomputable def TgtOk (env : Env) (scope : Scope) (cl : List (Str × Addr)) (x : Str) : Prop :=
  ∀ L, (cEnv env scope cl L).kindOf x = some .local ∨ ((cEnv env scope cl L).kindOf x = some .cell ∧ ((cEnv env scope cl L).cells.lookup x).isSome = true ∧ cl.lookup x = none)

section
variable {C : Cfg} {n : Nat} {env : Env} {m m' : Mp} {mu : Led} {G h : Heap} {k : Nat} {A : Around}
theorem comp_run {scope : Scope} {cl : List (Str × Addr)} {x : Str} {px pos : Pos} {iter elt : Expr} {v : Value} {it : AV} {items : List AV} {J : Nat → List AV → Led → Prop} {RR : Value → Addr → Result → Shared → Prop}
    (a : Aok n A) (g : Gm C.K G mu h) (V : Vm env G m mu h) (r : At G v it) (hi : Iter it items) (hz : items.length ≤ 1000000)
    (hk : scope.kind = .function) (hcl : clOk env cl = true) (hm : ∀ p ∈ m', m.lookup p.1 = some p.2 ∧ cap env scope cl p.1 = true) (hx : TgtOk env scope cl x)
    (J0 : J 0 [] mu)
    (turn : ∀ L i acc mu' y, items[i]? = some y → acc.length = i → J i acc mu' → T C n (cEnv env scope cl L) ((x, y) :: m') elt mu' fun z mu'' => J (i + 1) (acc ++ [z]) mu'')
    (hR : ∀ D Cl acc G' mu' h' k', Step C.K [] G mu h G' mu' h' → At G' (.ref D) (.list acc) → acc.length = items.length → J items.length acc mu' → h.get? Cl = none → G'.get? Cl = none → mu' Cl = none → (∃ ml, h'.Ns Cl ml) → RR (.ref D) Cl (.ok .next) (C.S h' k')) :
    wpAny C.M A (pyIter v) (fun it s₂ => wpAny C.M A (newList []) (fun acc s₃ => wpAny C.M A (newFunctionEnv scope env.globals cl [] env.qual none .none (some env)) (fun cenv s₄ =>
      codeAny C.M A (.compStart (.ListComp elt [⟨.Name x px, iter, [], 0⟩] scope pos) 0 it acc { cenv with scope := relabel scope env }) (RR acc cenv.locals) s₄) No s₃) No s₂) No (C.S h k) := by
  refine iter_ok a.hd g r hi fun o fp Pv St ho W st hfp hP hlv => ?_
  refine wpAny_newList ?_ (by rw [sizeLine_eq]; exact Nat.zero_le _)
  refine newComp_ok ?_
  have e1 : (C.S (h.push o) k).heap.objs.size = h.objs.size + 1 := Heap.size_push ..
  have e2 : ((h.push o).push { cls := .type "list", data := .seq [].toArray }).objs.size = h.objs.size + 2 := by rw [Heap.size_push, Heap.size_push]
  have sB : Sub h ((h.push o).push { cls := .type "list", data := .seq [].toArray }) := (push_sub _ _).trans (push_sub _ _)
  have SB : Step C.K [] G mu h G mu ((h.push o).push { cls := .type "list", data := .seq [].toArray }) := Step.grow g sB
  have V0 := comp_vm (scope := scope) (cl := cl) SB.gm (V.step SB) hk hcl hm
  have sBC : Sub ((h.push o).push { cls := .type "list", data := .seq [].toArray }) (pushCells (((h.push o).push { cls := .type "list", data := .seq [].toArray }).push { cls := .type "dict", data := .dict #[] }) scope.names) :=
    fun b o e => pushCells_keeps _ _ _ _ (Heap.get?_push_of_some _ e)
  have S0 : Step C.K [] G mu h G mu (pushCells (((h.push o).push { cls := .type "list", data := .seq [].toArray }).push { cls := .type "dict", data := .dict #[] }) scope.names) := Step.grow g (sB.trans sBC)
  have ownc : ∀ b, b ∈ own (cEnv env scope cl ((h.push o).push { cls := .type "list", data := .seq [].toArray }).objs.size) → b = h.objs.size + 2 ∨ b ∈ own env ∨ h.objs.size + 3 ≤ b := fun b hb => by
    have := own_cEnv hcl hb; rw [e2] at this; exact this
  generalize hcenv : cEnv env scope cl ((h.push o).push { cls := .type "list", data := .seq [].toArray }).objs.size = cenv at V0 ownc
  have hcl2 : cenv.locals = h.objs.size + 2 := by rw [← hcenv]; exact e2
  show codeAny _ _ (.compStart _ 0 _ (.ref (C.S (h.push o) k).heap.objs.size) (cEnv env scope cl ((h.push o).push { cls := .type "list", data := .seq [].toArray }).objs.size)) (RR (.ref (C.S (h.push o) k).heap.objs.size) ((h.push o).push { cls := .type "list", data := .seq [].toArray }).objs.size)
    (C.S (pushCells (((h.push o).push { cls := .type "list", data := .seq [].toArray }).push { cls := .type "dict", data := .dict #[] }) scope.names) k)
  rw [hcenv, e1, e2]
  have turn' := fun i acc mu' y => turn ((h.push o).push { cls := .type "list", data := .seq [].toArray }).objs.size i acc mu' y
  have hx' := hx ((h.push o).push { cls := .type "list", data := .seq [].toArray }).objs.size
  rw [hcenv] at turn' hx'
  generalize hhC : pushCells (((h.push o).push { cls := .type "list", data := .seq [].toArray }).push { cls := .type "dict", data := .dict #[] }) scope.names = hC at V0 sBC S0
  have fresh : ∀ b, h.objs.size ≤ b → h.get? b = none := fun b hb => by
    cases e : h.get? b with
    | none => rfl
    | some o => exact absurd (Heap.lt_size e) (Nat.not_lt.mpr hb)
  have oldown : ∀ b ∈ own env, b < h.objs.size := fun b hb => by
    cases e : h.get? b with
    | none => exact absurd e (V.own b hb).2.2
    | some o => exact Heap.lt_size e
  have G0 : ∀ b, h.objs.size ≤ b → G.get? b = none := fun b hb => by
    cases e : G.get? b with
    | none => rfl
    | some o => have := g.sub _ _ e; rw [fresh b hb] at this; cases this
  have M0 : ∀ b, h.objs.size ≤ b → mu b = none := fun b hb => by
    cases e : mu b with
    | none => rfl
    | some o => obtain ⟨o', e'⟩ := (g.led _ _ e).2.some; rw [fresh b hb] at e'; cases e'
  have hI : h.objs.size ∉ own cenv := fun hb => by
    rcases ownc _ hb with z | z | z
    · exact neK _ 2 (by decide) z
    · exact Nat.lt_irrefl _ (oldown _ z)
    · exact Nat.not_succ_le_self _ (Nat.le_trans (Nat.le_add_right _ 2) z)
  have hD : h.objs.size + 1 ∉ own cenv := fun hb => by
    rcases ownc _ hb with z | z | z
    · exact neK (h.objs.size + 1) 1 (by decide) z
    · exact Nat.not_succ_le_self _ (Nat.le_trans (Nat.le_of_lt (oldown _ z)) (Nat.le_refl _))
    · exact Nat.not_succ_le_self _ (Nat.le_trans (Nat.le_add_right _ 1) z)
  have stC : St 0 hC := W.frame 0 (h.push o) hC st fun b _ o' e => sBC b o' (push_sub _ _ b o' e)
  have lC : hC.PlainList (h.objs.size + 1) ([] : List Value).toArray := by
    refine ⟨0, sBC _ _ ?_⟩
    have := Heap.get?_push_size (h.push o) (o := ({ cls := .type "list", data := .seq [].toArray } : Obj)) rfl
    rw [Heap.size_push] at this; exact this
  have loop : codeAny C.M A (.compLoop (.ListComp elt [⟨.Name x px, iter, [], 0⟩] scope pos) 0 (.ref h.objs.size) (.ref (h.objs.size + 1)) cenv) (RR (.ref (h.objs.size + 1)) (h.objs.size + 2)) (C.S hC k) := by
    refine codeAny_compLoop_list (fun N s' => ∃ i acc vs G' mu' h' k', s' = C.S h' k' ∧ Step C.K [] G mu h G' mu' h' ∧ Vm cenv G' m' mu' h' ∧ St i h' ∧ h'.PlainList (h.objs.size + 1) (List.toArray vs) ∧ Its G' vs acc ∧ acc.length = i ∧ J i acc mu' ∧
        (G'.get? h.objs.size = none ∧ mu' h.objs.size = none) ∧ (G'.get? (h.objs.size + 1) = none ∧ mu' (h.objs.size + 1) = none) ∧ i ≤ items.length ∧ N = items.length + 1 - i)
      ?_ (items.length + 1) ⟨0, [], [], G, mu, hC, k, rfl, S0, V0, stC, lC, Its.nil, rfl, J0, ⟨G0 _ (Nat.le_refl _), M0 _ (Nat.le_refl _)⟩, ⟨G0 _ (Nat.le_succ _), M0 _ (Nat.le_succ _)⟩, Nat.zero_le _, rfl⟩
    rintro N s' ⟨i, acc, vs, G', mu', h', k', rfl, S', V', st', l', I', ha, J', ⟨gI, mI⟩, ⟨gD, mD⟩, hle, rfl⟩
    by_cases hlt : i < items.length
    · refine W.item i (C.S h' k') _ _ hlt st' fun w h2 k2 hw st2 kp => ?_
      have kp2 : ∀ b o, b ≠ h.objs.size → h'.get? b = some o → h2.get? b = some o := fun b o n e => kp b o (by simpa using n) e
      have S2 := S'.junk (fresh _ (Nat.le_refl _)) gI mI kp2
      have V2 := V'.but hI kp2
      have hy : items[i]? = some items[i] := List.getElem?_eq_getElem hlt
      have R2 : At G' w items[i] := (hP i w _ hw hy).mono S'.sub
      refine wpAny_assign_Name (store_at V2 R2 (hx'.imp id fun z => ⟨z.1, z.2.1⟩) fun c h3 k3 hc hn kp3 V3 => ?_)
      have hcown : c ∈ own cenv := by
        rcases hc with ⟨_, rfl⟩ | ⟨p, q⟩
        · exact .head _
        · exact mem_own p q
      have hcf : h.get? c = none := by
        rcases hc with ⟨_, rfl⟩ | ⟨p, q⟩
        · rw [hcl2]; exact fresh _ (by omega)
        · rcases hx' with z | ⟨_, _, z⟩
          · rw [p] at z; cases z
          · have hin : (x, c) ∈ cellsFrom (((h.push o).push { cls := .type "list", data := .seq [].toArray }).objs.size + 1) scope.names cl := mem_of_lookup (by rw [← hcenv] at q; exact q)
            have es : (((h.push o).push { cls := .type "list", data := .seq [].toArray }).push { cls := .type "dict", data := .dict #[] }).objs.size = ((h.push o).push { cls := .type "list", data := .seq [].toArray }).objs.size + 1 := Heap.size_push ..
            rw [← es] at hin
            rcases cells_mem _ _ _ _ hin with hin | ⟨a1, _, _⟩
            · exfalso
              have : ∀ l : List (Str × Addr), l.lookup x = none → (x, c) ∉ l := by
                intro l
                induction l with
                | nil => intro _ hh; cases hh
                | cons p r ih =>
                  intro e hh
                  rw [List.lookup_cons] at e
                  cases q : x == p.1 with
                  | true => rw [q] at e; cases e
                  | false =>
                    rw [q] at e
                    rcases List.mem_cons.mp hh with rfl | hh
                    · simp at q
                    · exact ih e hh
              exact this cl z hin
            · exact fresh _ (by rw [es, e2] at a1; have a1 : h.objs.size + 3 ≤ c := a1; exact Nat.le_trans (Nat.le_add_right _ 3) a1)
      have gc := (V2.own c hcown).1
      have mc := (V2.own c hcown).2.1
      have kp3' : ∀ b o, b ≠ c → h2.get? b = some o → h3.get? b = some o := fun b o n e => by rw [kp3 b n]; exact e
      have S3 := S2.junk hcf gc mc kp3'
      have hIc : h.objs.size ≠ c := fun z => hI (z ▸ hcown)
      have hDc : h.objs.size + 1 ≠ c := fun z => hD (z ▸ hcown)
      refine wNo (turn' i acc mu' _ hy ha J' A a G' h3 k3 S3.gm V3 _ fun u z G4 mu4 h4 k4 S4 R4 J4 => ?_)
      have S34 := S3.trans S4
      have l2 : h2.PlainList (h.objs.size + 1) vs.toArray := l'.at fun o e => kp2 _ o (neK _ 1 (by decide)).symm e
      have l4 : h4.PlainList (h.objs.size + 1) vs.toArray := l2.at fun o e => S4.keep _ o (kp3' _ o hDc e) (by simp) mD
      have hsz : vs.length ≤ items.length := by rw [I'.1, ha]; exact hle
      refine wpAny_list_append_plain (s := C.S h4 k4) l4 (fun h5 l5 sb => ?_) (by rw [List.size_toArray, sizeLine_eq]; omega)
      have hD4 : h3.get? (h.objs.size + 1) ≠ none := by
        obtain ⟨_, e⟩ := l2; rw [kp3' _ _ hDc e]; exact Option.some_ne_none _
      have hI4 : h3.get? h.objs.size ≠ none := by
        have := hlv _ _ st2
        cases e : h2.get? h.objs.size with
        | none => exact absurd e this
        | some o => rw [kp3' _ _ hIc e]; exact Option.some_ne_none _
      have gD4 := S4.newG _ hD4 mD gD
      have mD4 := S4.newM _ hD4 mD
      have kp5 : ∀ b o, b ≠ h.objs.size + 1 → h4.get? b = some o → h5.get? b = some o := fun b o n e => (sb.2 b n).trans e
      refine ⟨items.length + 1 - (i + 1), by omega, i + 1, acc ++ [z], vs ++ [u], G4, mu4, h5, k4, rfl, S34.junk (fresh _ (Nat.le_succ _)) gD4 mD4 kp5, ((V3.step S4).but hD kp5).weak fun p hp => ?_, ?_, ?_, ?_, by simp [ha], J4,
        ⟨S4.newG _ hI4 mI gI, S4.newM _ hI4 mI⟩, ⟨gD4, mD4⟩, hlt, rfl⟩
      · obtain ⟨_, q2⟩ := hm p hp
        have : (p.1 == x) = false := by
          cases q : p.1 == x with
          | false => rfl
          | true =>
            exfalso
            have qx := eq_of_beq q
            rw [qx] at q2
            unfold cap at q2
            simp only [Bool.and_eq_true] at q2
            obtain ⟨⟨⟨c1, c2⟩, c3⟩, c4⟩ := q2
            rcases hx' with z | ⟨_, _, z⟩
            · have := relabel_look V.ok.kind (eq_of_beq c1) (env := env) (scope := scope)
              have c2' : env.kindOf x = some .cell := eq_of_beq c2
              rw [c2'] at this
              rw [← hcenv] at z
              have z : (relabel scope env).names.lookup x = some .local := z
              rw [this] at z; cases z
            · rw [z] at c4; cases c4
        rw [List.lookup_cons, this]
        exact lookup_self (fun p hp => (hm p hp).1) hp
      · refine W.frame (i + 1) h2 h5 st2 fun b hb o e => ?_
        have hb5 : b ≠ h.objs.size + 1 := by
          rcases hfp b hb with rfl | z
          · exact neK _ 1 (by decide)
          · intro q; rw [q] at z; exact z (G0 _ (Nat.le_succ _))
        refine kp5 b o hb5 ?_
        rcases hfp b hb with rfl | z
        · exact S4.keep _ o (kp3' _ o hIc e) (by simp) mI
        · cases q : G.get? b with
          | none => exact absurd q z
          | some o1 =>
            have e1 := S'.sub _ _ q
            have e2 := S2.gm.sub _ _ e1
            rw [e] at e2; cases e2
            exact S4.gm.sub _ _ (S4.sub _ _ e1)
      · have : (vs.toArray.push u) = (vs ++ [u]).toArray := by simp
        rw [← this]; exact l5
      · exact (I'.mono S4.sub).append (Its.nil.cons R4)
    · have : i = items.length := by omega
      subst this
      refine W.done (C.S h' k') _ _ st' fun h2 k2 kp => ?_
      have kp2 : ∀ b o, b ≠ h.objs.size → h'.get? b = some o → h2.get? b = some o := fun b o n e => kp b o (by simpa using n) e
      have S2 := S'.junk (fresh _ (Nat.le_refl _)) gI mI kp2
      have V2 := V'.but hI kp2
      obtain ⟨G'', S3, s3, eD, ne⟩ := S2.adopt (fresh (h.objs.size + 1) (Nat.le_succ _)) mD
      have l2 : h2.PlainList (h.objs.size + 1) vs.toArray := l'.at fun o e => kp2 _ o (neK _ 1 (by decide)).symm e
      have oC := V2.own (h.objs.size + 2) (by rw [← hcl2]; exact .head _)
      refine hR (h.objs.size + 1) (h.objs.size + 2) acc G'' mu' h2 k2 S3 (.list (vs := vs) (l2.at fun o e => eD.trans e) I'.1 (I'.mono s3).2) ha J' (fresh _ (by omega)) ?_ oC.2.1 ?_
      · rw [ne _ (neK (h.objs.size + 1) 1 (by decide)).symm]; exact oC.1
      · have := V2.fr; rw [hcl2] at this; exact this
  exact codeAny_compStart_list loop (W.self 0 _ _ _ stC loop)
end

/-! ### C9 -/
section
variable {C : Cfg} {n : Nat} {env : Env} {m m' : Mp} {mu : Led}
noncomputable abbrev TurnC (J : Nat → List AV → Led → Prop) (i : Nat) (acc : List AV) : AV → Led → Prop := fun z mu'' => J (i + 1) (acc ++ [z]) mu''
inductive CompK (C : Cfg) (n : Nat) (env : Env) (scope : Scope) (cl : List (Str × Addr)) (x : Str) (m' : Mp) (elt : Expr) (P : AV → Led → Prop) (it : AV) (mu₁ : Led) : Prop
  | mk (items : List AV) (hi : Iter it items) (hz : items.length ≤ 1000000) (J : Nat → List AV → Led → Prop) (j0 : J 0 [] mu₁)
    (turn : ∀ L i acc mu' y, items[i]? = some y → acc.length = i → J i acc mu' → T C n (cEnv env scope cl L) ((x, y) :: m') elt mu' (TurnC J i acc)) (done : ∀ acc mu', acc.length = items.length → J items.length acc mu' → P (.list acc) mu')
/-- a list comprehension over one walk -/
theorem T_comp {scope : Scope} {cl : List (Str × Addr)} {x : Str} {px pos : Pos} {iter elt : Expr} {P : AV → Led → Prop}
    (hclos : closureFor scope env = pure cl) (hk : scope.kind = .function) (hnames : ∀ y ∈ scope.names, y.2 = .local → scope.names.lookup y.1 = some .local)
    (hcl : clOk env cl = true) (hm : ∀ p ∈ m', m.lookup p.1 = some p.2 ∧ cap env scope cl p.1 = true) (hx : TgtOk env scope cl x)
    (h : T C n env m iter mu (CompK C n env scope cl x m' elt P))
    (hs : ∀ x, foldedSetIterable iter env x = pure x := by intro _; rfl) :
    T C n env m (.ListComp elt [⟨.Name x px, iter, [], 0⟩] scope pos) mu P := by
  intro A a G hh t g V Q q
  rw [eval_ListComp]
  refine wpAny_comprehension_free (use := none) rfl hs hclos hk hnames (h A a G hh t g V _ fun v it G1 mu1 h1 t1 S1 R1 p1 => ?_)
  obtain ⟨items, hi, hz, J, J0, turn, done⟩ := p1
  refine comp_run a S1.gm (V.step S1) R1 hi hz hk hcl hm hx J0 turn fun D Cl acc G' mu' h' k' S' R' ha J' c1 c2 c3 ⟨ml, hn⟩ => ⟨ml, hn, fun h'' sb => ?_⟩
  refine q _ _ G' mu' h'' k' (S1.trans (S'.junk c1 c2 c3 fun b o n e => (sb.2 b n).trans e)) R' (done acc mu' ha J')

/-- the same, stored at once under a name of the block -/
theorem X_setComp {scope : Scope} {cl : List (Str × Addr)} {x w : Str} {px pw pos pos' : Pos} {iter elt : Expr} {P : AFl → Mp → Led → Prop}
    (hw : env.kindOf w = some .local) (hclos : closureFor scope env = pure cl) (hk : scope.kind = .function) (hnames : ∀ y ∈ scope.names, y.2 = .local → scope.names.lookup y.1 = some .local)
    (hcl : clOk env cl = true) (hm : ∀ p ∈ m', m.lookup p.1 = some p.2 ∧ cap env scope cl p.1 = true) (hx : TgtOk env scope cl x)
    (h : T C n env m iter mu (CompK C n env scope cl x m' elt (KSet w m P)))
    (hsw : swapsWithSole [.Name w pw] (.ListComp elt [⟨.Name x px, iter, [], 0⟩] scope pos) pos'.line env = pure true := by rfl)
    (hs : ∀ x, foldedSetIterable iter env x = pure x := by intro _; rfl) :
    TX C n env m (exec (.Assign [.Name w pw] (.ListComp elt [⟨.Name x px, iter, [], 0⟩] scope pos) pos') env) mu P := by
  intro A a G hh t g V Q q
  rw [exec_Assign_arm]
  refine wpAny_bind (wpAny_standAt ?_)
  rw [hsw]
  refine wpAny_bind (wpAny_pure ?_)
  rw [if_pos rfl]
  show wpAny _ _ ((comprehension (.ListComp elt [⟨.Name x px, iter, [], 0⟩] scope pos) scope env iter.pos (newList []) false (eval iter env) (some fun v => assign (.Name w pw) env v) >>= fun _ => pure ()) >>= fun _ => pure Flow.next) _ _ _
  refine wpAny_bind (wpAny_bind (wpAny_comprehension_free rfl hs hclos hk hnames (h A a G hh t g V _ fun v it G1 mu1 h1 t1 S1 R1 p1 => ?_)))
  obtain ⟨items, hi, hz, J, J0, turn, done⟩ := p1
  have V1 := V.step S1
  refine comp_run a S1.gm V1 R1 hi hz hk hcl hm hx J0 turn fun D Cl acc G' mu' h' k' S' R' ha J' c1 c2 c3 ⟨ml, hn⟩ => ?_
  show wpAny _ _ (assign (.Name w pw) env (.ref D)) _ _ _
  refine wpAny_assign_Name (store_at (V1.step S') R' (.inl hw) fun c h2 k2 hc hn2 kp V2 => ?_)
  have hco : c ∈ own env := by
    rcases hc with ⟨_, rfl⟩ | ⟨p, q⟩
    · exact .head _
    · exact mem_own p q
  have hcne : Cl ≠ c := fun z => (V1.own c hco).2.2 (z ▸ c1)
  have S2 : Step C.K (own env) G' mu' h' G' mu' h2 := (Step.but (L := [c]) S'.gm (fun b o n e => by rw [kp b (by simpa using n)]; exact e) (fun b hb => by rw [List.mem_singleton.mp hb]; exact ((V1.step S').own c hco).1)
    (fun b hb => by rw [List.mem_singleton.mp hb]; exact ((V1.step S').own c hco).2.1) fun b hb => by rw [List.mem_singleton.mp hb]; exact hn2).wide fun b hb => by rw [List.mem_singleton.mp hb]; exact hco
  refine ⟨ml, hn.at' fun o e => (kp Cl hcne).trans e, fun h'' sb => wpAny_pure (wpAny_pure ?_)⟩
  have kp3 : ∀ b o, b ≠ Cl → h2.get? b = some o → h''.get? b = some o := fun b o n e => (sb.2 b n).trans e
  refine q _ _ _ G' mu' h'' k2 (S1.e.trans ((S'.e.trans S2).junk c1 c2 c3 kp3)) (V2.but (fun hb => (V1.own _ hb).2.2 c1) kp3) .next (done acc mu' ha J')
end

/-! ## calls -/
noncomputable def stm (p : Program) (i : Nat) : Stmt := p.main.body.getD i (.Pass default)
noncomputable def clsM (p : Program) (i j : Nat) : Stmt := match stm p i with | .ClassDef _ _ _ b _ _ _ _ _ _ _ => b.getD j (.Pass default) | _ => .Pass default
noncomputable def fArgs : Stmt → Arguments | .FunctionDef _ a _ _ _ _ _ _ _ _ => a | _ => default
noncomputable def fBody : Stmt → List Stmt | .FunctionDef _ _ b _ _ _ _ _ _ _ => b | _ => []
noncomputable def fScope : Stmt → Scope | .FunctionDef _ _ _ _ _ _ sc _ _ _ => sc | _ => default

noncomputable abbrev fnS (nm qual : Str) (st : Stmt) (pm cdv ct : Value) : FuncData := fnX nm qual (fArgs st) (fBody st) (fScope st) [] .none .none .none pm none cdv ct
/-- the written part holds at f the def that the statement st writes -/
noncomputable def FnIs (K : Frag) (f : Addr) (nm qual : Str) (st : Stmt) : Prop :=
  ∃ pm cdv ct oc od osl, K.lookup f = some ⟨oc, od, .func (fnS nm qual st pm cdv ct), osl⟩ ∧ codeIn K cdv qual = true

/-- calls of a value with the values given -/
noncomputable abbrev Call (C : Cfg) (n : Nat) (f : Value) (ys : List AV) (mu : Led) (P : AV → Led → Prop) : Prop := OpL C n At (fun vs => call f vs) ys mu P
theorem Call.mono {C : Cfg} {n : Nat} {f : Value} {ys : List AV} {mu : Led} {P P' : AV → Led → Prop} (h : Call C n f ys mu P) (k : ∀ y mu', P y mu' → P' y mu') : Call C n f ys mu P' :=
  fun A a G hh t vs g I Q q => h A a G hh t vs g I Q fun v y G' mu' h' t' x r p => q v y G' mu' h' t' x r (k _ _ p)

section
variable {C : Cfg} {n : Nat} {env : Env} {m : Mp} {mu : Led}
noncomputable abbrev KCall (C : Cfg) (n : Nat) (f : Value) (P : AV → Led → Prop) : List AV → Led → Prop := fun ys mu₂ => Call C n f ys mu₂ P
theorem starEach_plain (es : List Expr) (h : es.all (fun | .Starred .. => false | _ => true) = true) (env : Env) (pos : Pos) : (backTo pos (starEach es env)).any (·.1) = false := by
  induction es with
  | nil => rfl
  | cons e r ih =>
    rw [List.all_cons, Bool.and_eq_true] at h
    cases e <;> first | exact ih h.2 | exact absurd h.1 Bool.false_ne_true
theorem callN_K {v : Value} {first : List Value} {e : Expr} {rest : List Expr} {pos : Pos} {A : Around} {s : Shared} {Q : Value → Shared → Prop} {E : Value → Shared → Prop} (X : C.K.In s.heap) (hk : keepIn C.K v = true)
    (h : wpAny C.M A (spliced (backTo pos (starEach (e :: rest) env))) (fun vs s₁ => C.K.In s₁.heap ∧ wpAny C.M A (call v (first ++ vs)) Q E s₁) E s)
    (he : starEach (e :: rest) env = (false, eval e env) :: starEach rest env) (hp : (backTo pos (starEach rest env)).any (·.1) = false) : wpAny C.M A (callWith pos v first (backTo pos (starEach (e :: rest) env)) []) Q E s :=
  callWith_K X hk h he hp

theorem eval_CallName (x : Str) (px pos : Pos) (args : List Expr) : eval (.Call (.Name x px) args [] pos) env = (do callWith pos (← eval (.Name x px) env) [] (backTo pos (starEach args env)) []) := rfl
/-- a def or a class of the program is called by its name -/
theorem T_callK {x : Str} {px pos : Pos} {e : Expr} {rest : List Expr} {P : AV → Led → Prop}
    (h : T C n env m (.Name x px) mu fun f mu₁ => ∃ v, f = .val v ∧ keepIn C.K v = true ∧ TL C n env m pos (e :: rest) mu₁ (KCall C n v P))
    (he : starEach (e :: rest) env = (false, eval e env) :: starEach rest env := by rfl) (hp : (backTo pos (starEach rest env)).any (·.1) = false := by rfl) : T C n env m (.Call (.Name x px) (e :: rest) [] pos) mu P := by
  intro A a G hh t g V Q q
  rw [eval_CallName]
  refine wpAny_bind (h A a G hh t g V _ fun v f G1 mu1 h1 t1 S1 R1 p1 => ?_)
  obtain ⟨v', rfl, hk, p1⟩ := p1
  cases R1
  refine callWith_K S1.gm.cx.K hk (p1 A a G1 h1 t1 S1.gm (V.step S1) _ fun vs l G2 mu2 h2 t2 S2 R2 p2 => ⟨S2.gm.cx.K.keeps S2.gm.sub, ?_⟩) he hp
  rw [List.nil_append]
  exact p2 A a G2 h2 t2 vs S2.gm R2 _ fun r z G3 mu3 h3 t3 S3 R3 p3 => q r z G3 mu3 h3 t3 (S1.trans (S2.trans S3)) R3 p3
theorem T_callK0 {x : Str} {px pos : Pos} {P : AV → Led → Prop}
    (h : T C n env m (.Name x px) mu fun f mu₁ => ∃ v, f = .val v ∧ keepIn C.K v = true ∧ Call C n v [] mu₁ P) : T C n env m (.Call (.Name x px) [] [] pos) mu P := by
  intro A a G hh t g V Q q
  rw [eval_CallName]
  refine wpAny_bind (h A a G hh t g V _ fun v f G1 mu1 h1 t1 S1 R1 p1 => ?_)
  obtain ⟨v', rfl, hk, p1⟩ := p1
  cases R1
  refine callWith_K0 (s := C.S h1 t1) (S1.gm.cx.K.keeps S1.gm.sub) hk ?_
  exact p1 A a G1 h1 t1 [] S1.gm Its.nil _ fun r z G3 mu3 h3 t3 S3 R3 p3 => q r z G3 mu3 h3 t3 (S1.trans S3) R3 p3
/-- a built-in function is called by its name -/
theorem T_callB {x : Str} {px pos : Pos} {e : Expr} {rest : List Expr} {P : AV → Led → Prop}
    (h : T C n env m (.Name x px) mu fun f mu₁ => ∃ id, f = .val (.builtin id) ∧ TL C n env m pos (e :: rest) mu₁ (KCall C n (.builtin id) P))
    (he : starEach (e :: rest) env = (false, eval e env) :: starEach rest env := by rfl) (hp : (backTo pos (starEach rest env)).any (·.1) = false := by rfl) : T C n env m (.Call (.Name x px) (e :: rest) [] pos) mu P := by
  intro A a G hh t g V Q q
  rw [eval_CallName]
  refine wpAny_bind (h A a G hh t g V _ fun v f G1 mu1 h1 t1 S1 R1 p1 => ?_)
  obtain ⟨id, rfl, p1⟩ := p1
  cases R1
  refine PyProof.Rows.callWith_builtin1 (p1 A a G1 h1 t1 S1.gm (V.step S1) _ fun vs l G2 mu2 h2 t2 S2 R2 p2 => ?_) he hp
  exact p2 A a G2 h2 t2 vs S2.gm R2 _ fun r z G3 mu3 h3 t3 S3 R3 p3 => q r z G3 mu3 h3 t3 (S1.trans (S2.trans S3)) R3 p3
/-- a built-in type is called by its name -/
theorem T_callT {x : Str} {px pos : Pos} {e : Expr} {rest : List Expr} {P : AV → Led → Prop}
    (h : T C n env m (.Name x px) mu fun f mu₁ => ∃ id, f = .val (.type id) ∧ TL C n env m pos (e :: rest) mu₁ (KCall C n (.type id) P))
    (he : starEach (e :: rest) env = (false, eval e env) :: starEach rest env := by rfl) (hp : (backTo pos (starEach rest env)).any (·.1) = false := by rfl) : T C n env m (.Call (.Name x px) (e :: rest) [] pos) mu P := by
  intro A a G hh t g V Q q
  rw [eval_CallName]
  refine wpAny_bind (h A a G hh t g V _ fun v f G1 mu1 h1 t1 S1 R1 p1 => ?_)
  obtain ⟨id, rfl, p1⟩ := p1
  cases R1
  refine PyProof.Rows.callWith_type1 (p1 A a G1 h1 t1 S1.gm (V.step S1) _ fun vs l G2 mu2 h2 t2 S2 R2 p2 => ?_) he hp
  exact p2 A a G2 h2 t2 vs S2.gm R2 _ fun r z G3 mu3 h3 t3 S3 R3 p3 => q r z G3 mu3 h3 t3 (S1.trans (S2.trans S3)) R3 p3
end

/-! ### C10 -/
/-- a def of the program, called: at the machine's own level -/
noncomputable def Code' (C : Cfg) (n : Nat) (f : Value) (ys : List AV) (mu : Led) (P : AV → Led → Prop) : Prop :=
  ∀ A, Aok n A → ∀ G h k vs, Gm C.K G mu h → Its G vs ys → ∀ R : Result → Shared → Prop,
    (∀ v y G' mu' h' k', Step C.K [] G mu h G' mu' h' → At G' v y → P y mu' → R (.ok (.ret v)) (C.S h' k')) → codeAny C.M A (.call f ⟨vs, []⟩) R (C.S h k)
theorem Code'.call {C : Cfg} {n : Nat} {f : Value} {ys : List AV} {mu : Led} {P : AV → Led → Prop} (h : Code' C n f ys mu P) : Call C n f ys mu P :=
  fun A a G hh t vs g I Q q => wpAny_call (h A a G hh t vs g I _ fun v y G' mu' h' k' S r p => q v y G' mu' h' k' S r p)

theorem Step.under {K : Frag} {L : List Addr} {G h h1 G' h' : Heap} {mu mu' : Led} (k : Sub h h1) (hL : ∀ b ∈ L, h.get? b = none) (S : Step K L G mu h1 G' mu' h') : Step K [] G mu h G' mu' h' := by
  have k' : ∀ b, h.get? b ≠ none → h1.get? b ≠ none := fun b e => by
    cases q : h.get? b with
    | none => exact absurd q e
    | some o => rw [k b o q]; exact Option.some_ne_none _
  exact ⟨S.sub, S.gm, fun b o e _ q => S.keep b o (k b o e) (fun z => by rw [hL b z] at e; cases e) q, fun b e => S.newG b (k' b e), fun b e => S.newM b (k' b e), fun b e => S.live b (k' b e)⟩

theorem bindL_look (k : Str → Option NameKind) {x : Str} {v : Value} (hk : k x = some .local) : ∀ (bs : List (Str × Value)) (m : Str → Option Value), (bs.map (·.1)).Nodup → bs.lookup x = some v → bindL k bs m x = some v
  | [], m, _, h => by cases h
  | (y, u) :: r, m, nd, h => by
    have hnd := List.nodup_cons.mp (by simpa using nd : (y :: r.map (·.1)).Nodup)
    have keep : ∀ (r : List (Str × Value)) (m : Str → Option Value), x ∉ r.map (·.1) → bindL k r m x = m x := by
      intro r
      induction r with
      | nil => intro m _; rfl
      | cons p q ih =>
        intro m hn
        obtain ⟨z, w⟩ := p
        simp only [List.map_cons, List.mem_cons, not_or] at hn
        unfold bindL
        rw [ih _ hn.2]
        split
        · dsimp only; rw [if_neg hn.1]
        · rfl
    rw [List.lookup_cons] at h
    unfold bindL
    cases q : x == y with
    | true =>
      rw [q] at h; cases h
      have e := eq_of_beq q; subst e
      rw [keep _ _ hnd.1, if_pos hk, if_pos rfl]
    | false => rw [q] at h; exact bindL_look k hk r _ hnd.2 h
theorem bindC_look (k : Str → Option NameKind) {x : Str} {v : Value} (hk : k x = some .cell) : ∀ (bs : List (Str × Value)) (m : Str → Option Value), (bs.map (·.1)).Nodup → bs.lookup x = some v → bindC k bs m x = some v
  | [], m, _, h => by cases h
  | (y, u) :: r, m, nd, h => by
    have hnd := List.nodup_cons.mp (by simpa using nd : (y :: r.map (·.1)).Nodup)
    have keep : ∀ (r : List (Str × Value)) (m : Str → Option Value), x ∉ r.map (·.1) → bindC k r m x = m x := by
      intro r
      induction r with
      | nil => intro m _; rfl
      | cons p q ih =>
        intro m hn
        obtain ⟨z, w⟩ := p
        simp only [List.map_cons, List.mem_cons, not_or] at hn
        unfold bindC
        rw [ih _ hn.2]
        split
        · rfl
        · dsimp only; rw [if_neg hn.1]
    rw [List.lookup_cons] at h
    unfold bindC
    cases q : x == y with
    | true =>
      rw [q] at h; cases h
      have e := eq_of_beq q; subst e
      rw [keep _ _ hnd.1, if_neg (by rw [hk]; decide), if_pos rfl]
    | false => rw [q] at h; exact bindC_look k hk r _ hnd.2 h

theorem zip_names : ∀ (names : List Str) (vs : List Value), names.length = vs.length → (names.zip vs).map (·.1) = names
  | [], [], _ => rfl
  | [], _ :: _, h => by cases h
  | _ :: _, [], h => by cases h
  | a :: r, v :: q, h => by rw [List.zip_cons_cons, List.map_cons, zip_names r q (by simpa using h)]
theorem zip_look {G : Heap} : ∀ (names : List Str) (vs : List Value) (ys : List AV), Its G vs ys → ∀ x y, (names.zip ys).lookup x = some y → ∃ v, (names.zip vs).lookup x = some v ∧ At G v y
  | [], _, _, _, _, _, h => by simp at h
  | _ :: _, [], [], _, _, _, h => by simp at h
  | _ :: _, [], _ :: _, I, _, _, _ => by have := I.1; simp at this
  | _ :: _, _ :: _, [], I, _, _, _ => by have := I.1; simp at this
  | a :: r, v :: vs, z :: ys, I, x, y, h => by
    rw [List.zip_cons_cons, List.lookup_cons] at h ⊢
    cases q : x == a with
    | true => rw [q] at h; cases h; exact ⟨v, rfl, I.head⟩
    | false => rw [q] at h; exact zip_look r vs ys I.tail x y h

section
variable {C : Cfg} {n : Nat} {mu : Led}
/-- a def is entered -/
theorem code_fn {f : Addr} {nm qual : Str} {st : Stmt} {ys : List AV} {P : AV → Led → Prop} (names : List Str) (hF : FnIs C.K f nm qual st) (hn : names.length = ys.length)
    (hb : ∀ vs : List Value, vs.length = ys.length → ∀ pm cdv ct, bindArgs (fnS nm qual st pm cdv ct) ⟨vs, []⟩ = pure (names.zip vs))
    (hkind : (names.all fun y => (fScope st).names.lookup y == some .local || (fScope st).names.lookup y == some .cell) = true) (hnd : names.Nodup)
    (hcn : ((cellsFrom 0 (fScope st).names []).map (·.1)).Nodup) (hco : (fScope st).isCoroutine = false) (hgen : (fScope st).isGenerator = false) (hk : (fScope st).kind = .function)
    (body : ∀ L cdv, TX C n (envOfC qual (fScope st) L f cdv) (names.zip ys) (execs (fBody st) (envOfC qual (fScope st) L f cdv)) mu fun fl _ mu' => match fl with | .ret y => P y mu' | .next => P (.val .none) mu' | _ => False) :
    Code' C (n + 1) (.ref f) ys mu P := by
  intro A a G h k vs g I R q
  obtain ⟨pm, cdv, ct, oc, od, osl, ho, hcd⟩ := hF
  have X : C.K.In h := g.cx.K.keeps g.sub
  have lim : h.NoLimit := g.cx.lim.keeps g.sub
  have hlen : names.length = vs.length := hn.trans I.1.symm
  refine codeAny_call_function a.depth (s := C.S h k) (X _ _ ho) rfl hco hgen rfl (codeRec_of X hcd) ?_
  rw [hb vs I.1]
  refine wpAny_pure ?_
  have hkind' : ((names.zip vs).all fun y => (fScope st).names.lookup y.1 == some .local || (fScope st).names.lookup y.1 == some .cell) = true := by
    rw [List.all_eq_true]
    intro p hp
    exact List.all_eq_true.mp hkind p.1 (by have := List.mem_map_of_mem (f := (·.1)) hp; rwa [zip_names names vs hlen] at this)
  refine wpAny_newFunctionEnv_cells hk (kindsX hkind' _) fun env' he s' x => ?_
  subst he
  refine ⟨lim.keeps x.toInCall.keep, codeAny_func ?_⟩
  obtain ⟨h₁, tk, rfl, hk₁⟩ := x.done
  have hfresh : ∀ b ∈ own (envOfC qual (fScope st) h.objs.size f cdv), h.objs.size ≤ b := fun b hb => by
    rcases List.mem_cons.mp hb with rfl | hb
    · exact Nat.le_refl _
    · obtain ⟨p, hp, rfl⟩ := List.mem_map.mp hb
      exact Nat.le_of_lt (x.above p.1 p.2 (List.mem_filter.mp hp).1)
  have hnone : ∀ b ∈ own (envOfC qual (fScope st) h.objs.size f cdv), h.get? b = none := fun b hb => by
    cases e : h.get? b with
    | none => rfl
    | some o => exact absurd (Heap.lt_size e) (Nat.not_lt.mpr (hfresh b hb))
  have hns := x.toInCall.ns
  have S1 : Step C.K [] G mu h G mu h₁ := Step.grow g hk₁
  have hnd' : ((names.zip vs).map (·.1)).Nodup := by rw [zip_names names vs hlen]; exact hnd
  have V : Vm (envOfC qual (fScope st) h.objs.size f cdv) G (names.zip ys) mu h₁ := by
    refine ⟨⟨hk, rfl, rfl, fun y z c _ _ h3 h4 => ?_⟩, fun b hb => ⟨?_, ?_, ?_⟩, ⟨_, hns⟩, fun y c hy hc => ⟨_, x.cell y c hc⟩, fun y z e => ?_⟩
    · exact name_of_addr x.apart (mem_of_lookup h3) (mem_of_lookup h4)
    · cases e : G.get? b with
      | none => rfl
      | some o => have := g.sub _ _ e; rw [hnone b hb] at this; cases this
    · cases e : mu b with
      | none => rfl
      | some o => obtain ⟨o', e'⟩ := (g.led _ _ e).2.some; rw [hnone b hb] at e'; cases e'
    · rcases List.mem_cons.mp hb with rfl | hb
      · obtain ⟨o, _, _, e, _⟩ := hns; intro z; have z : h₁.get? h.objs.size = none := z; have e : h₁.get? h.objs.size = some o := e; rw [e] at z; cases z
      · obtain ⟨p, hp, rfl⟩ := List.mem_map.mp hb
        obtain ⟨o, e, _⟩ := x.cell p.1 p.2 (lookup_of_mem_nodup (by have e := cellsFrom_names (fScope st).names 0 (h.objs.size + 1) [] [] rfl; exact e ▸ hcn) (List.mem_filter.mp hp).1)
        intro z; have e : h₁.get? p.2 = some o := e; rw [e] at z; cases z
    · obtain ⟨v, e1, r⟩ := zip_look names vs ys I y z e
      refine ⟨v, ?_, r⟩
      have hin : y ∈ names := by
        have := List.mem_map_of_mem (f := (·.1)) (mem_of_lookup e1); rwa [zip_names names vs hlen] at this
      have hky := List.all_eq_true.mp hkind y hin
      rcases Bool.or_eq_true_iff.mp hky with c | c
      · have c : (envOfC qual (fScope st) h.objs.size f cdv).kindOf y = some .local := eq_of_beq c
        exact .inl ⟨c, _, hns, bindL_look _ c _ _ hnd' e1⟩
      · have c : (envOfC qual (fScope st) h.objs.size f cdv).kindOf y = some .cell := eq_of_beq c
        obtain ⟨ad, had⟩ := Option.isSome_iff_exists.mp (cellsFrom_some (x := y) (fScope st).names (h.objs.size + 1) [] (.inl c))
        have hc : h₁.IsCell ad (bindC (envOfC qual (fScope st) h.objs.size f cdv).kindOf (names.zip vs) (fun _ => none) y) := x.cell y ad had
        rw [bindC_look _ c _ _ hnd' e1] at hc
        exact .inr ⟨c, ad, had, hc⟩
  refine wNo (body h.objs.size cdv _ (a.deeper _) G h₁ tk S1.gm V _ fun fl fl' m' G' mu' h' k' S' V' r p => ?_)
  have S'' := Step.under hk₁ hnone S'
  cases r with
  | next => exact q _ _ G' mu' h' k' S'' (.val _) p
  | ret r => exact q _ _ G' mu' h' k' S'' r p
  | brk => exact p.elim
  | cont => exact p.elim

/-! ### objects -/
theorem At.instAt {G h : Heap} {v : Value} {Cl : Addr} {fs : List (Str × AV)} (r : At G v (.inst Cl fs)) (k : Sub G h) :
    ∃ x d es n, v = .ref x ∧ InstAt h x (instObj Cl d) Cl (some (dictOf es n)) ∧ (∀ x, fs.lookup x = none → getL x es = some none) ∧ ∀ x y, fs.lookup x = some y → ∃ v, getL x es = some (some v) ∧ At G v y := by
  cases r with
  | inst hx hd hn hs hf => exact ⟨_, _, _, _, rfl, ⟨k _ _ hx, rfl, rfl, k _ _ hd⟩, hn, fun x y e => let ⟨v, e'⟩ := hs x y e; ⟨v, e', hf x y v e e'⟩⟩
/-- objects of Cl hand out their own attribute nm -/
structure AttrOf (K : Frag) (Cl : Addr) (nm : Str) : Prop where
  ga : findIn K (.ref Cl) "__getattribute__" = some (some (.builtin "object.__getattribute__"))
  hd : hasDictIn K Cl = true
  at_ : ∃ attr, findIn K (.ref Cl) nm = some attr ∧ noGet K attr = true
/-- nm is a method f of the objects of Cl -/
structure MethOf (K : Frag) (Cl : Addr) (nm : Str) (f : Addr) : Prop where
  ga : findIn K (.ref Cl) "__getattribute__" = some (some (.builtin "object.__getattribute__"))
  gn : findIn K (.ref Cl) "__getattr__" = some none
  is : findIn K (.ref Cl) nm = some (some (.ref f))
  fn : typeIn K (.ref f) = some (.type "function")
  kp : keepIn K (.ref f) = true
noncomputable def plainAV : AV → Bool
  | .val (.builtin _) => false
  | _ => true
theorem handed_of {G : Heap} {v : Value} {y : AV} (r : At G v y) (h : plainAV y = true) : handedIn v = true := by
  cases r with
  | val v => cases v <;> first | rfl | cases h
  | _ => rfl

section
variable {env : Env} {m : Mp}
theorem O_attr {Cl : Addr} {fs : List (Str × AV)} {nm : Str} {y : AV} {b : Bool} {P : AV → Led → Prop} (X : AttrOf C.K Cl nm) (e : fs.lookup nm = some y) (hp : plainAV y = true) (h : P y mu) :
    Op1 C n At (fun o => getAttr o nm b) (.inst Cl fs) mu P := by
  intro A a G hh t v g r Q q
  obtain ⟨x, d, es, k, rfl, I, _, hs⟩ := r.instAt g.sub
  obtain ⟨w, ew, rw_⟩ := hs nm y e
  obtain ⟨attr, h1, h2⟩ := X.at_
  exact get_value (s := C.S hh t) (g.cx.K.keeps g.sub) I X.ga (findObj_own X.hd h1 h2 (by rw [lookIn_dict]; exact ew)) (handed_of rw_ hp) (q _ _ G mu hh _ (.refl g) rw_ h)
theorem O_attrM {a d Cl : Addr} {fs : List (Str × AV)} {nm : Str} {y : AV} {b : Bool} {P : AV → Led → Prop} (X : AttrOf C.K Cl nm) (ea : mu a = some (.inst Cl d)) (ed : mu d = some (.dict fs)) (e : fs.lookup nm = some y) (hp : plainAV y = true) (h : P y mu) :
    Op1 C n At (fun o => getAttr o nm b) (.val (.ref a)) mu P := by
  intro A ha G hh t v g r Q q
  cases r
  obtain ⟨es, k, p, _, _, _, hs, hf⟩ := (g.led d _ ed).2
  have pa : hh.get? a = some (instObj Cl d) := (g.led a _ ea).2
  obtain ⟨w, ew⟩ := hs nm y e
  have rw_ := hf nm y w e ew
  obtain ⟨attr, h1, h2⟩ := X.at_
  exact get_value (s := C.S hh t) (ox := instObj Cl d) (od := some (dictOf es k)) (g.cx.K.keeps g.sub) ⟨pa, rfl, rfl, p⟩ X.ga (findObj_own X.hd h1 h2 (by rw [lookIn_dict]; exact ew)) (handed_of rw_ hp) (q _ _ G mu hh _ (.refl g) rw_ h)
noncomputable abbrev KAttr (C : Cfg) (n : Nat) (nm : Str) (P : AV → Led → Prop) : AV → Led → Prop := fun o mu₁ => Op1 C n At (fun o => getAttr o nm true) o mu₁ P
noncomputable abbrev KCallO (C : Cfg) (n : Nat) (f : Value) (ov : AV) (P : AV → Led → Prop) : List AV → Led → Prop := fun ys mu₂ => Call C n f (ov :: ys) mu₂ P
inductive MethK (C : Cfg) (n : Nat) (env : Env) (m : Mp) (pos : Pos) (nm : Str) (es : List Expr) (P : AV → Led → Prop) (ov : AV) (mu₁ : Led) : Prop
  | mk (Cl : Addr) (fs : List (Str × AV)) (f : Addr) (h1 : ov = .inst Cl fs) (h2 : fs.lookup nm = none) (h3 : MethOf C.K Cl nm f) (h4 : TL C n env m pos es mu₁ (KCallO C n (.ref f) ov P))
inductive MethK0 (C : Cfg) (n : Nat) (nm : Str) (P : AV → Led → Prop) (ov : AV) (mu₁ : Led) : Prop
  | mk (Cl : Addr) (fs : List (Str × AV)) (f : Addr) (h1 : ov = .inst Cl fs) (h2 : fs.lookup nm = none) (h3 : MethOf C.K Cl nm f) (h4 : Call C n (.ref f) [ov] mu₁ P)
theorem T_attr {value : Expr} {nm : Str} {pos : Pos} {P : AV → Led → Prop} (h : T C n env m value mu (KAttr C n nm P))
    (he : eval (.Attribute value nm pos) env = (do
      let o ← eval value env
      standAt pos.atName
      let r ← holding [o] (getAttr o nm true)
      letTemporaryGo value o r
      pure r) := by with_unfolding_all rfl) : T C n env m (.Attribute value nm pos) mu P := by
  intro A a G hh t g V Q q
  refine Attribute_any_ (h A a G hh t g V _ fun v o G1 mu1 h1 t1 S1 R1 p1 => ?_) he
  exact p1 A a G1 h1 t1 v S1.gm R1 _ fun r z G3 mu3 h3 t3 S3 R3 p3 => q r z G3 mu3 h3 t3 (S1.trans S3) R3 p3
/-- a method of an object is called -/
theorem T_meth {o : Expr} {nm : Str} {apos pos : Pos} {e : Expr} {rest : List Expr} {pl : Sem Bool} {P : AV → Led → Prop}
    (h : T C n env m o mu (MethK C n env m pos nm (e :: rest) P))
    (he : eval (.Call (.Attribute o nm apos) (e :: rest) [] pos) env = (do
      let ov ← eval o env
      standAt apos.atName
      let (f, first) ← holding [ov] (getMethod ov nm pl)
      callWith pos f first (backTo pos (starEach (e :: rest) env)) []) := by with_unfolding_all rfl)
    (hs : starEach (e :: rest) env = (false, eval e env) :: starEach rest env := by rfl) (hp : (backTo pos (starEach rest env)).any (·.1) = false := by rfl) :
    T C n env m (.Call (.Attribute o nm apos) (e :: rest) [] pos) mu P := by
  intro A a G hh t g V Q q
  rw [he]
  refine wpAny_bind (h A a G hh t g V _ fun v ov G1 mu1 h1 t1 S1 R1 p1 => wpAny_bind (wpAny_standAt (wpAny_bind (wpAny_holding ?_))))
  obtain ⟨Cl, fs, f, rfl, hn, X, p1⟩ := p1
  obtain ⟨x, d, es, k, rfl, I, hno, _⟩ := R1.instAt S1.gm.sub
  have XK : C.K.In (C.S h1 t1).heap := S1.gm.cx.K.keeps S1.gm.sub
  refine method_fn XK I X.ga X.gn X.is X.fn (by show (lookIn nm (dictOf es k)).map _ = _; rw [lookIn_dict, hno nm hn]; rfl) ?_
  refine callWith_K XK X.kp (p1 A a G1 h1 t1 S1.gm (V.step S1) _ fun vs l G2 mu2 h2 t2 S2 R2 p2 => ⟨S2.gm.cx.K.keeps S2.gm.sub, ?_⟩) hs hp
  exact p2 A a G2 h2 t2 (.ref x :: vs) S2.gm (R2.cons (R1.mono S2.sub)) _ fun r z G3 mu3 h3 t3 S3 R3 p3 => q r z G3 mu3 h3 t3 (S1.trans (S2.trans S3)) R3 p3
theorem T_meth0 {o : Expr} {nm : Str} {apos pos : Pos} {pl : Sem Bool} {P : AV → Led → Prop}
    (h : T C n env m o mu (MethK0 C n nm P))
    (he : eval (.Call (.Attribute o nm apos) [] [] pos) env = (do
      let ov ← eval o env
      standAt apos.atName
      let (f, first) ← holding [ov] (getMethod ov nm pl)
      callWith pos f first (backTo pos (starEach [] env)) []) := by with_unfolding_all rfl) :
    T C n env m (.Call (.Attribute o nm apos) [] [] pos) mu P := by
  intro A a G hh t g V Q q
  rw [he]
  refine wpAny_bind (h A a G hh t g V _ fun v ov G1 mu1 h1 t1 S1 R1 p1 => wpAny_bind (wpAny_standAt (wpAny_bind (wpAny_holding ?_))))
  obtain ⟨Cl, fs, f, rfl, hn, X, p1⟩ := p1
  obtain ⟨x, d, es, k, rfl, I, hno, _⟩ := R1.instAt S1.gm.sub
  have XK : C.K.In (C.S h1 t1).heap := S1.gm.cx.K.keeps S1.gm.sub
  refine method_fn XK I X.ga X.gn X.is X.fn (by show (lookIn nm (dictOf es k)).map _ = _; rw [lookIn_dict, hno nm hn]; rfl) ?_
  refine callWith_K0 XK X.kp ?_
  exact p1 A a G1 h1 t1 [.ref x] S1.gm (Its.nil.cons R1) _ fun r z G3 mu3 h3 t3 S3 R3 p3 => q r z G3 mu3 h3 t3 (S1.trans S3) R3 p3
end
end

/-! ### C11 -/
theorem Aok.make {n : Nat} {A : Around} (a : Aok (n + 1) A) (Cl : Addr) (vals : List Value) (kw : List (Str × Value)) : Aok n (A.under (.builtin "type.__call__" ⟨.ref Cl :: vals, kw⟩)) := by
  refine ⟨a.hd, ?_, ?_⟩
  · rw [depth_under_kw]; have := a.dp; omega
  · have e : (A.under (.builtin "type.__call__" ⟨.ref Cl :: vals, kw⟩)).units = A.units + 1 := rfl
    rw [e]; have := a.un; omega

section
variable {C : Cfg} {n : Nat} {mu : Led}
theorem dict0 {G h : Heap} : AOAt G (h.push emptyDict) h.objs.size (.dict []) := by
  refine ⟨[], 0, Heap.get?_push_size _ rfl, Nat.le_refl _, fun _ h => (nomatch h), fun _ _ => rfl, fun x y e => ?_, fun x y v e => ?_⟩ <;> cases e

/-- an object is made -/
theorem code_cls {Cl fI : Addr} {ys : List AV} {P : AV → Led → Prop} (hm : makesIn C.K Cl = true) (hi : findIn C.K (.ref Cl) "__init__" = some (some (.ref fI))) (hf : typeIn C.K (.ref fI) = some (.type "function"))
    (h : ∀ a d, mu a = none → mu d = none → a ≠ d → Code' C n (.ref fI) (.val (.ref a) :: ys) (put (put mu d (.dict [])) a (.inst Cl d)) fun r mu' => r = .val .none ∧ P (.val (.ref a)) mu') :
    Code' C (n + 1) (.ref Cl) ys mu P := by
  intro A a G hh k vs g I R q
  have X : C.K.In hh := g.cx.K.keeps g.sub
  refine make_core (g := C.s.gens) (d := C.s.drawn) (t := k) (os := C.s.os) (makes_of X hm) (looks_findIn X hi) (fun self => bind_fn X self hf) (.inl rfl) ?_
  have S1 := Step.allocM (L := []) (K := C.K) g emptyDict (.dict []) dict0
  have es : (hh.push emptyDict).objs.size = hh.objs.size + 1 := Heap.size_push ..
  have S2 := Step.allocM (L := []) (K := C.K) S1.gm (instObj Cl hh.objs.size) (.inst Cl hh.objs.size) (Heap.get?_push_size _ rfl)
  rw [es] at S2
  have S := S1.trans S2
  have m1 : mu (hh.objs.size + 1) = none := by
    have := S1.gm.fresh
    rw [es] at this
    unfold put at this
    split at this
    · cases this
    · exact this
  refine h (hh.objs.size + 1) hh.objs.size m1 g.fresh (neK _ 1 (by decide)).symm _ (a.make Cl vs []) G _ k (.ref (hh.objs.size + 1) :: vs) S.gm (I.cons (.val _)) _ fun v y G' mu' h' k' S' r p => ?_
  obtain ⟨rfl, p⟩ := p
  cases r
  exact ⟨rfl, q _ _ G' mu' h' k' (S.trans S') (.val _) p⟩
/-- an object is made, and settles -/
theorem code_clsF {Cl fI : Addr} {ys : List AV} {P : AV → Led → Prop} (hm : makesIn C.K Cl = true) (hi : findIn C.K (.ref Cl) "__init__" = some (some (.ref fI))) (hf : typeIn C.K (.ref fI) = some (.type "function"))
    (h : ∀ a d, mu a = none → mu d = none → a ≠ d → Code' C n (.ref fI) (.val (.ref a) :: ys) (put (put mu d (.dict [])) a (.inst Cl d)) fun r mu' => r = .val .none ∧ mu' a = some (.inst Cl d) ∧ ∃ fs, mu' d = some (.dict fs) ∧ P (.inst Cl fs) (del (del mu' d) a)) :
    Code' C (n + 1) (.ref Cl) ys mu P := by
  intro A ha G hh k vs g I R q
  refine code_cls (P := fun y mu' => ∃ a d fs, y = .val (.ref a) ∧ mu' a = some (.inst Cl d) ∧ mu' d = some (.dict fs) ∧ P (.inst Cl fs) (del (del mu' d) a)) hm hi hf (fun a d h1 h2 h3 => ?_) A ha G hh k vs g I R fun v y G' mu' h' k' S r p => ?_
  · intro A' a' G' h' k' vs' g' I' R' q'
    exact h a d h1 h2 h3 A' a' G' h' k' vs' g' I' R' fun v y G2 mu2 h2 k2 S2 r2 p2 => q' v y G2 mu2 h2 k2 S2 r2 ⟨p2.1, a, d, p2.2.2.choose, rfl, p2.2.1, p2.2.2.choose_spec.1, p2.2.2.choose_spec.2⟩
  · obtain ⟨a, d, fs, rfl, e1, e2, p⟩ := p
    cases r
    obtain ⟨G2, S2, r2⟩ := Step.freezeI (L := []) S.gm e1 e2
    exact q _ _ G2 _ h' k' (S.trans S2) r2 p
/-- an object of a class without an __init__ of its own -/
theorem code_cls0 {Cl : Addr} {P : AV → Led → Prop} (hm : makesIn C.K Cl = true) (hi : findIn C.K (.ref Cl) "__init__" = some (some (.builtin "object.__init__"))) (h : P (.inst Cl []) mu) :
    Code' C n (.ref Cl) [] mu P := by
  intro A a G hh k vs g I R q
  have hv : vs = [] := by
    have := I.1
    cases vs with
    | nil => rfl
    | cons _ _ => simp at this
  subst hv
  have X : C.K.In hh := g.cx.K.keeps g.sub
  have Y := makes_of (M := C.M) X hm
  refine make_core (g := C.s.gens) (d := C.s.drawn) (t := k) (os := C.s.os) Y (looks_findIn X hi) (fun self => Looks.of_pure (oi_bind self)) (.inr ⟨rfl, rfl⟩) ?_
  have S1 := Step.allocM (L := []) (K := C.K) g emptyDict (.dict []) dict0
  have es : (hh.push emptyDict).objs.size = hh.objs.size + 1 := Heap.size_push ..
  have S2 := Step.allocM (L := []) (K := C.K) S1.gm (instObj Cl hh.objs.size) (.inst Cl hh.objs.size) (Heap.get?_push_size _ rfl)
  rw [es] at S2
  have S := S1.trans S2
  have hx : ((hh.push emptyDict).push (instObj Cl hh.objs.size)).get? (hh.objs.size + 1) = some (instObj Cl hh.objs.size) := (S.gm.led (hh.objs.size + 1) (.inst Cl hh.objs.size) (by unfold put; rw [if_pos rfl])).2
  have t1 : Looks C.M ((hh.push emptyDict).push (instObj Cl hh.objs.size)) (typeOf (.ref (hh.objs.size + 1))) (.ref Cl) := (Looks.ld hx).andThen .now
  have t2 : Looks C.M ((hh.push emptyDict).push (instObj Cl hh.objs.size)) (isInstance (.ref (hh.objs.size + 1)) (.type "object")) true := t1.andThen (Y.top.keeps fun b o e => push_sub _ _ b o (push_sub _ _ b o e))
  refine codeAny_call_builtin oi_plain entry_oi (@check_slot C.M _ _ _ "object.__init__" "object" "__init__" (.ref (hh.objs.size + 1)) [] [] _ oi_kind oi_split t2 (oi_args (.ref (hh.objs.size + 1))) ?_)
  rw [oi_run]
  refine wpAny_pure (And.intro rfl ?_)
  obtain ⟨G2, S3, r3⟩ := Step.freezeI (L := []) S.gm (a := hh.objs.size + 1) (d := hh.objs.size) (Cl := Cl) (fs := []) (by unfold put; rw [if_pos rfl]) (by unfold put; rw [if_neg (neK _ 1 (by decide)), if_pos rfl])
  have m1 : mu (hh.objs.size + 1) = none := by
    have := S1.gm.fresh
    rw [es] at this
    unfold put at this
    split at this
    · cases this
    · exact this
  have e : del (del (put (put mu hh.objs.size (.dict [])) (hh.objs.size + 1) (.inst Cl hh.objs.size)) hh.objs.size) (hh.objs.size + 1) = mu := by
    funext b
    unfold del put
    split
    · rename_i z; rw [z]; exact m1.symm
    · split
      · rename_i z; rw [z]; exact g.fresh.symm
      · rfl
  rw [e] at S3
  exact q _ _ G2 mu _ k (S.trans S3) r3 h

/-! ### a field is stored -/
/-- objects of Cl take an attribute nm of their own -/
structure SetOf (K : Frag) (Cl : Addr) (nm : Str) : Prop where
  sa : findIn K (.ref Cl) "__setattr__" = some (some (.builtin "object.__setattr__"))
  po : plainOver K Cl = true
  tk : takerIn K Cl nm = some none
  hd : hasDictIn K Cl = true

theorem strs_any {es : List DictEntry} (h : ∀ e ∈ es, ∃ x t, e.key = .str x t) : es.any (·.refKey) = false := by
  rw [List.any_eq_false]
  intro e he
  obtain ⟨x, t, h⟩ := h e he
  simp [DictEntry.refKey, h]
theorem getL_strs {es : List DictEntry} (h : ∀ e ∈ es, ∃ x t, e.key = .str x t) (x : Str) : getL x es = some ((es.find? (·.key.isStr x)).map (·.val)) := by
  unfold getL
  rw [strs_any h]
  cases es.find? (·.key.isStr x) <;> rfl
theorem putL_strs {nm : Str} {hsh : Int} {t : Tok} {v : Value} : ∀ {es : List DictEntry}, (∀ e ∈ es, ∃ x t, e.key = .str x t) → ∀ e ∈ putL nm hsh (.str nm t) v es, ∃ x t, e.key = .str x t
  | [], _, e, he => by rw [List.mem_singleton.mp he]; exact ⟨_, _, rfl⟩
  | d :: r, h, e, he => by
    unfold putL at he
    split at he
    · rcases List.mem_cons.mp he with rfl | he
      · exact h d (.head _)
      · exact h e (.tail _ he)
    · rcases List.mem_cons.mp he with rfl | he
      · exact h _ (.head _)
      · exact putL_strs (fun e he => h e (.tail _ he)) e he
theorem putL_len {nm : Str} {hsh : Int} {k v : Value} : ∀ {es : List DictEntry}, (putL nm hsh k v es).length ≤ es.length + 1
  | [] => Nat.le_refl _
  | d :: r => by
    unfold putL
    split
    · simp
    · simp only [List.length_cons]; have := putL_len (nm := nm) (hsh := hsh) (k := k) (v := v) (es := r); omega
theorem isStr_eq {v : Value} {x y : Str} (a : v.isStr x = true) (b : v.isStr y = true) : x = y := by
  cases v <;> first | cases a | skip
  exact (eq_of_beq (show (_ == x) = true from a)).symm.trans (eq_of_beq (show (_ == y) = true from b))
theorem putL_look {nm x : Str} {hsh : Int} {t : Tok} {v : Value} : ∀ {es : List DictEntry},
    ((putL nm hsh (.str nm t) v es).find? (·.key.isStr x)).map (·.val) = if x = nm then some v else (es.find? (·.key.isStr x)).map (·.val)
  | [] => by
    unfold putL
    rw [List.find?_cons]
    by_cases h : x = nm
    · subst h; simp [Value.isStr]
    · have : (nm == x) = false := by simpa using fun z => h z.symm
      simp [Value.isStr, this, h]
  | d :: r => by
    unfold putL
    split
    · rename_i hd
      rw [List.find?_cons, List.find?_cons]
      by_cases h : x = nm
      · subst h; simp [hd]
      · have : d.key.isStr x = false := by
          cases q : d.key.isStr x with
          | false => rfl
          | true => exact absurd (isStr_eq q hd) h
        simp [this, h]
    · rename_i hd
      rw [List.find?_cons, List.find?_cons]
      cases q : d.key.isStr x with
      | true =>
        have h : x ≠ nm := fun z => hd (z ▸ q)
        simp [h]
      | false => exact putL_look
theorem setAttr_ok {A : Around} {h : Heap} {k : Nat} {a d Cl : Addr} {es : List DictEntry} {j : Nat} {nm : Str} {v : Value} {Q : Unit → Shared → Prop} (X : C.K.In h) (Y : SetOf C.K Cl nm) (pa : h.get? a = some (instObj Cl d)) (pd : h.get? d = some (dictOf es j))
    (hs : ∀ e ∈ es, ∃ x t, e.key = .str x t) (hz : es.length ≤ 100)
    (q : ∀ h' k' hsh t j', h'.get? d = some (dictOf (putL nm hsh (.str nm t) v es) j') → Heap.SameBut d h h' → Q () (C.S h' k')) : wpAny C.M A (setAttr (.ref a) nm v) Q No (C.S h k) := by
  have I : PySem.W.InstAt h a (instObj Cl d) Cl (some (dictOf es j)) := ⟨pa, rfl, rfl, pd⟩
  refine set_plain (s := C.S h k) X I Y.sa (osa_open (s := { C.S h k with toks := k + 1 }) X I Y.po Y.tk fun b => ?_)
  obtain ⟨cd, hc, hd'⟩ := any_some Y.hd
  refine wpAny_bind (wpAny_pure (wpAny_bind (wpAny_bind (wpAny_loadPart pa (wpAny_bind ((looks_clsIn X hc).here ?_))))))
  rw [hd']
  refine wpAny_pure (a := some d) (wpAny_bind (wpAny_pure (wpAny_bind ?_)))
  unfold nsSet
  refine wpAny_bind (wpAny_bind (wpAny_askSetting (wpAny_pure (wpAny_bind (wpAny_mkText (wpAny_bind (wpAny_loadPart pd ?_)))))))
  have c : (!es.toArray.any (·.key.isStr nm) && es.toArray.any (·.refKey)) = false := by
    have : es.toArray.any (·.refKey) = false := by rw [← Array.any_toList]; exact strs_any hs
    rw [this, Bool.and_false]
  have c' : (match (dictOf es j).data with | .dict es' _ => (!es'.any (·.key.isStr nm) && es'.any (·.refKey)) | _ => false) = false := c
  dsimp only
  rw [aRefKeyMayBeTheName_at, c]
  refine wpAny_updatePart pd ?_
  have e : (h.update d (Obj.putName nm (PyData.keyHash C.w.params nm) (.str nm (k + 1)) v)).get? d = some (dictOf (putL nm (PyData.keyHash C.w.params nm) (.str nm (k + 1)) v es) (putN nm es j)) := by
    rw [Heap.get?_update_self _ pd (by rw [putName_dict]; rfl), putName_dict]
  refine wpAny_bind (wpAny_lookBehind e (pastItsLine_dict (by rw [List.size_toArray, sizeLine_eq]; have := putL_len (nm := nm) (hsh := PyData.keyHash C.w.params nm) (k := .str nm (k + 1)) (v := v) (es := es); omega)) ?_)
  exact wpAny_pure (q _ _ _ _ _ e (Heap.SameBut.update ..))

/-- an object of the ledger takes another shape -/
theorem Step.put {K : Frag} {L : List Addr} {G h h' : Heap} {a : Addr} {o o' : AO} (g : Gm K G mu h) (e : mu a = some o) (kp : ∀ b, b ≠ a → h'.get? b = h.get? b) (x : AOAt G h' a o') : Step K L G mu h G (put mu a o') h' := by
  have hG := (g.led a o e).1
  refine ⟨Sub.refl _, ⟨fun b z q => ?_, fun b z q => ?_, g.cx⟩, fun b z q _ n => ?_, fun _ _ _ n => n, fun b q n => ?_, fun b q => ?_⟩
  · rw [kp b fun w => by rw [w, hG] at q; cases q]; exact g.sub _ _ q
  · unfold Mine.put at q
    split at q
    · rename_i w; subst w; cases q; exact ⟨hG, x⟩
    · rename_i w; exact ⟨(g.led b z q).1, (g.led b z q).2.mono (Sub.refl _) fun o1 e1 => (kp b w).trans e1⟩
  · rw [kp b fun w => by rw [w, e] at n; cases n]; exact q
  · unfold Mine.put
    rw [if_neg fun w => by rw [w, e] at n; cases n]; exact n
  · by_cases w : b = a
    · subst w; obtain ⟨o1, e1⟩ := x.some; rw [e1]; exact Option.some_ne_none _
    · rw [kp b w]; exact q
section
variable {env : Env} {m : Mp}
inductive KSa (K : Frag) (m : Mp) (nm : Str) (y : AV) (P : Mp → Led → Prop) (ov : AV) (mu₁ : Led) : Prop
  | mk (a Cl d : Addr) (fs : List (Str × AV)) (h1 : ov = .val (.ref a)) (h2 : mu₁ a = some (.inst Cl d)) (h3 : mu₁ d = some (.dict fs)) (h4 : fs.length < 100) (h5 : SetOf K Cl nm) (h6 : P m (put mu₁ d (.dict ((nm, y) :: fs))))
theorem A_attr {o : Expr} {nm : Str} {pos : Pos} {y : AV} {P : Mp → Led → Prop}
    (h : T C n env m o mu (KSa C.K m nm y P)) :
    TA C n env m (assign (.Attribute o nm pos) env) y mu P := by
  intro A ha G hh k v g V r Q q
  show wpAny _ _ (do
    let ov ← holding [v] (eval o env)
    standAt pos.atName
    holding [v, ov] (setAttr ov nm v)
    release [v, ov] []) _ _ _
  refine wpAny_bind (wpAny_holding (h A ha G hh k g V _ fun w ov G1 mu1 h1 k1 S1 R1 p1 => wpAny_bind (wpAny_standAt (wpAny_bind (wpAny_holding ?_)))))
  obtain ⟨a, Cl, d, fs, rfl, ea, ed, hz, Y, p⟩ := p1
  cases R1
  obtain ⟨es, j, pd, z1, z2, z3, z4, z5⟩ := (S1.gm.led d _ ed).2
  have pa : h1.get? a = some (instObj Cl d) := (S1.gm.led a _ ea).2
  refine setAttr_ok (S1.gm.cx.K.keeps S1.gm.sub) Y pa pd z2 (by omega) fun h2 k2 hsh t j' e sb => wpAny_release ?_
  have hst := putL_strs (nm := nm) (hsh := hsh) (t := t) (v := v) z2
  have look : ∀ x, getL x (putL nm hsh (.str nm t) v es) = if x = nm then some (some v) else getL x es := fun x => by
    rw [getL_strs hst, getL_strs z2, putL_look]; split <;> rfl
  have S2 : Step C.K [] G1 mu1 h1 G1 (put mu1 d (.dict ((nm, y) :: fs))) h2 := Step.put S1.gm ed sb.2 ⟨_, j', e, ?_, hst, fun x e' => ?_, fun x y' e' => ?_, fun x y' w e' e2 => ?_⟩
  · exact q _ _ _ _ _ (S1.e.trans S2.e) ((V.step S1).step S2) p
  · have := putL_len (nm := nm) (hsh := hsh) (k := .str nm t) (v := v) (es := es)
    simp only [List.length_cons]; omega
  · rw [List.lookup_cons] at e'
    rw [look]
    cases q : x == nm with
    | true => rw [q] at e'; cases e'
    | false => rw [q] at e'; rw [if_neg (by simpa using q)]; exact z3 x e'
  · rw [look]
    rcases lookup_upd e' with ⟨rfl, rfl⟩ | ⟨ne, e'⟩
    · exact ⟨v, by rw [if_pos rfl]⟩
    · rw [if_neg ne]; exact z4 x y' e'
  · rw [look] at e2
    rcases lookup_upd e' with ⟨rfl, rfl⟩ | ⟨ne, e'⟩
    · rw [if_pos rfl] at e2; cases e2; exact r.mono S1.sub
    · rw [if_neg ne] at e2; exact z5 x y' w e' e2
end
end

/-! ### C12 -/
section
variable {C : Cfg} {n : Nat} {env : Env} {m : Mp} {mu : Led} {G h : Heap} {k : Nat} {A : Around}
/-! ### lists that grow -/
theorem T_lmeth {o : Expr} {nm : Str} {id : String} {apos pos : Pos} {e : Expr} {P : AV → Led → Prop} (slot : Slot "list" nm id) (hty : typeOf (.builtin id) = pure (.type "method_descriptor"))
    (h : T C n env m o mu fun ov mu₁ => ∃ c l₀, ov = .val (.ref c) ∧ mu₁ c = some (.list l₀) ∧ T C n env m e mu₁ fun y mu₂ => Op1 C n At (fun v => call (.builtin id) [.ref c, v]) y mu₂ P)
    (hbase : attributeBase o nm env (eval o env) = eval o env) (hline : (apos.endLine == pos.line) = true) (he : starEach [e] env = [(false, eval e env)]) :
    T C n env m (.Call (.Attribute o nm apos) [e] [] pos) mu P := by
  intro A a G hh t g V Q q
  refine wpAny_Call_method hbase (by rw [he]; rfl) hline PySem.F.plainAttrs_list slot hty (h A a G hh t g V _ fun v ov G1 mu1 h1 t1 S1 R1 p1 => ?_)
  obtain ⟨c, l0, rfl, e1, p1⟩ := p1
  cases R1
  obtain ⟨vs, ⟨j, p⟩, I⟩ := (S1.gm.led c _ e1).2
  refine ⟨⟨_, p, rfl⟩, fun a ea => ?_, ?_⟩
  · cases ea; exact ⟨_, p, rfl⟩
  · refine callWith_method1 (wpAny_items_cons (p1 A a G1 h1 t1 S1.gm (V.step S1) _ fun u y G2 mu2 h2 t2 S2 R2 p2 => wpAny_items_nil ?_) he) he rfl
    exact p2 A a G2 h2 t2 u S2.gm R2 _ fun r z G3 mu3 h3 t3 S3 R3 p3 => q r z G3 mu3 h3 t3 (S1.trans (S2.trans S3)) R3 p3
inductive App2 (c : Addr) (P : AV → Led → Prop) (y : AV) (mu₂ : Led) : Prop
  | mk (l : List AV) (h1 : mu₂ c = some (.list l)) (h2 : l.length ≤ 1000000) (h3 : P (.val .none) (put mu₂ c (.list (l ++ [y]))))
inductive Ext2 (c : Addr) (P : AV → Led → Prop) (y : AV) (mu₂ : Led) : Prop
  | mk (l l' : List AV) (h0 : y = .list l') (h1 : mu₂ c = some (.list l)) (h2 : l.length + l'.length ≤ 1000000) (h3 : P (.val .none) (put mu₂ c (.list (l ++ l'))))
inductive App1 (C : Cfg) (n : Nat) (env : Env) (m : Mp) (e : Expr) (P : Addr → AV → Led → Prop) (ov : AV) (mu₁ : Led) : Prop
  | mk (c : Addr) (l₀ : List AV) (h1 : ov = .val (.ref c)) (h2 : mu₁ c = some (.list l₀)) (h3 : T C n env m e mu₁ (P c))
theorem T_append {o : Expr} {apos pos : Pos} {e : Expr} {P : AV → Led → Prop}
    (h : T C n env m o mu (App1 C n env m e fun c => App2 c P))
    (hbase : attributeBase o "append" env (eval o env) = eval o env := by rfl) (hline : (apos.endLine == pos.line) = true := by rfl) (he : starEach [e] env = [(false, eval e env)] := by rfl) :
    T C n env m (.Call (.Attribute o "append" apos) [e] [] pos) mu P := by
  refine T_lmeth slot_list_append PySem.F.type_list_append (h.mono fun ov mu1 ⟨c, l0, e0, e1, p⟩ => ⟨c, l0, e0, e1, p.mono fun y mu2 ⟨l, e2, hz, p2⟩ => ?_⟩) hbase hline he
  intro A a G hh t v g r Q q
  obtain ⟨vs, p, I⟩ := (g.led c _ e2).2
  refine wpAny_list_append_plain (s := C.S hh t) p (fun h' l' sb => ?_) (by rw [List.size_toArray, I.1, sizeLine_eq]; omega)
  have : (vs.toArray.push v) = (vs ++ [v]).toArray := by simp
  rw [this] at l'
  exact q _ _ G _ h' t (Step.put (o' := .list (l ++ [y])) g e2 sb.2 ⟨_, l', I.append (Its.nil.cons r)⟩) (.val _) p2
theorem T_extend {o : Expr} {apos pos : Pos} {e : Expr} {P : AV → Led → Prop}
    (h : T C n env m o mu (App1 C n env m e fun c => Ext2 c P))
    (hbase : attributeBase o "extend" env (eval o env) = eval o env := by rfl) (hline : (apos.endLine == pos.line) = true := by rfl) (he : starEach [e] env = [(false, eval e env)] := by rfl) :
    T C n env m (.Call (.Attribute o "extend" apos) [e] [] pos) mu P := by
  refine T_lmeth PySem.F.slot_list_extend PySem.F.type_list_extend (h.mono fun ov mu1 ⟨c, l0, e0, e1, p⟩ => ⟨c, l0, e0, e1, p.mono fun y mu2 ⟨l, l', ey, e2, hz, p2⟩ => ?_⟩) hbase hline he
  subst ey
  intro A a G hh t v g r Q q
  cases r with
  | list pb hl hi =>
    rename_i b us
    obtain ⟨vs, ⟨j, p⟩, I⟩ := (g.led c _ e2).2
    obtain ⟨j2, pb'⟩ := pb.at (h' := hh) fun o e => g.sub _ o e
    have hsz : vs.toArray.size + us.toArray.size ≤ sizeLine := by rw [List.size_toArray, List.size_toArray, I.1, hl, sizeLine_eq]; omega
    refine call_meets (s := C.S hh t) PySem.F.slot_list_extend ⟨_, p, rfl⟩ PySem.F.entry_list_extend (PySem.F.args_list_extend_2 _ _) (AutoSeq1.list_extend_list_list_0 c vs.toArray j b us.toArray j2 (extend_door hsz) (Nat.le_trans (Nat.le_add_right _ _) hsz) (Nat.le_succ_of_le hsz)) ⟨p, pb', ?_⟩
    have e' : vs.toArray ++ us.toArray = (vs ++ us).toArray := by simp
    have ho : (hh.update c (Obj.mapSeq fun x => x ++ us.toArray)).get? c = some { cls := .type "list", data := .seq (vs ++ us).toArray (if (vs.toArray ++ us.toArray).size == vs.toArray.size then j else j + 1) } := by
      rw [Heap.get?_update_self _ p (by rw [mapSeq_app]; rfl), mapSeq_app, e']
    exact q _ _ G _ _ t (Step.put (o' := .list (l ++ l')) g e2 (Heap.SameBut.update ..).2 ⟨_, ⟨_, ho⟩, I.append ⟨hl, hi⟩⟩) (.val _) p2

/-! ### several targets -/
noncomputable def TAL (C : Cfg) (n : Nat) (env : Env) (m : Mp) (fs : List (Value → Sem Unit)) (ys : List AV) (mu : Led) (P : Mp → Led → Prop) : Prop :=
  ∀ A, Aok n A → ∀ G h k vs, Gm C.K G mu h → Vm env G m mu h → Its G vs ys → ∀ Q : Unit → Shared → Prop,
    (∀ m' G' mu' h' k', Step C.K (own env) G mu h G' mu' h' → Vm env G' m' mu' h' → P m' mu' → Q () (C.S h' k')) → wpAny C.M A (assignInOrder fs vs) Q No (C.S h k)
theorem AL_nil {P : Mp → Led → Prop} (h : P m mu) : TAL C n env m [] [] mu P := fun _ _ _ _ _ _ g V _ _ q => wpAny_pure (q _ _ _ _ _ (.refl g) V h)
noncomputable abbrev KAL (C : Cfg) (n : Nat) (env : Env) (fs : List (Value → Sem Unit)) (ys : List AV) (P : Mp → Led → Prop) : Mp → Led → Prop := fun m₁ mu₁ => TAL C n env m₁ fs ys mu₁ P
theorem AL_cons {f : Value → Sem Unit} {fs : List (Value → Sem Unit)} {y : AV} {ys : List AV} {P : Mp → Led → Prop} (h : TA C n env m f y mu (KAL C n env fs ys P)) : TAL C n env m (f :: fs) (y :: ys) mu P := by
  intro A a G hh k vs g V I Q q
  match vs, I with
  | [], I => have := I.1; simp at this
  | v :: vs, I =>
    refine wpAny_assignInOrder_more (h A a G hh k v g V I.head _ fun m1 G1 mu1 h1 k1 S1 V1 p1 => ?_)
    exact p1 A a G1 h1 k1 vs S1.gm V1 (I.tail.mono S1.sub) _ fun m2 G2 mu2 h2 k2 S2 V2 p2 => q _ _ _ _ _ (S1.trans S2) V2 p2

theorem draw_ok {I : Addr} {fp : List Addr} {N : Nat} {Pv : Nat → Value → Prop} {St : Nat → Heap → Prop} (W : Walks C.prog C.w A I fp [I] N Pv St) : ∀ (j i : Nat) (h : Heap) (k : Nat) (Q : List Value → Shared → Prop), St i h → i + j ≤ N →
    (∀ vs h' k', vs.length = j → (∀ t v, vs[t]? = some v → Pv (i + t) v) → St (i + j) h' → (∀ b o, b ≠ I → h.get? b = some o → h'.get? b = some o) → Q vs (C.S h' k')) → wpAny C.M A (draw (.ref I) j) Q No (C.S h k)
  | 0, i, h, k, Q, st, _, q => wpAny_pure (q [] h k rfl (fun t v e => by simp at e) st fun _ _ _ e => e)
  | j + 1, i, h, k, Q, st, hle, q => by
    show wpAny _ _ (pyNext (.ref I) >>= _) _ _ _
    refine wpAny_bind (W.item i (C.S h k) _ _ (by omega) st fun v h1 k1 hv st1 kp => ?_)
    refine wpAny_bind (wpAny_holding (draw_ok W j (i + 1) h1 k1 _ st1 (by omega) fun vs h2 k2 hl hP st2 kp2 => wpAny_pure ?_))
    refine q (v :: vs) h2 k2 (by simp [hl]) (fun t u e => ?_) (by rw [show i + (j + 1) = i + 1 + j by omega]; exact st2) fun b o ne e => kp2 b o ne (kp b o (by simpa using ne) e)
    cases t with
    | zero => simp at e; rw [← e]; exact hv
    | succ t => rw [show i + (t + 1) = i + 1 + t by omega]; exact hP t u (by simpa using e)

theorem unpack_ok {v : Value} {y : AV} {items : List AV} {j : Nat} {Q : List Value → Shared → Prop} (hd : A.handled = none) (g : Gm C.K G mu h) (r : At G v y) (hy : y = .list items ∨ y = .tup items) (hj : items.length = j)
    (q : ∀ vs h' k', Step C.K [] G mu h G mu h' → Its G vs items → Q vs (C.S h' k')) : wpAny C.M A (unpackItems v j none) Q No (C.S h k) := by
  have hit : Iter y items := by rcases hy with rfl | rfl; exact .list _; exact .tup _
  have hni : ∀ (Q : Bool → Shared → Prop), Q false (C.S h k) → wpAny C.M A (notIterableAtAll v) Q No (C.S h k) := by
    intro Q q
    unfold notIterableAtAll
    rcases hy with rfl | rfl
    · cases r with
      | list p hl hi =>
        obtain ⟨_, p⟩ := p
        exact wpAny_bind (wpAny_specialOf (T := "list") ⟨_, g.sub _ _ p, rfl⟩ slot_list_iter.lookup (wpAny_pure q))
    · cases r with
      | tup p hl hi =>
        obtain ⟨_, p⟩ := p
        exact wpAny_bind (wpAny_specialOf (T := "tuple") ⟨_, g.sub _ _ p, rfl⟩ slot_tuple_iter.lookup (wpAny_pure q))
  unfold unpackItems
  refine wpAny_bind (hni _ ?_)
  simp only [Bool.false_eq_true, if_false]
  refine wpAny_bind (wpAny_holding (iter_ok hd g r hit fun o fp Pv St ho W st hfp hP hlv => ?_))
  refine wpAny_bind (wpAny_holding (draw_ok W j 0 _ k _ st (by omega) fun vs h1 k1 hl hv st1 kp => ?_))
  rw [if_neg (by omega)]
  rw [show 0 + j = items.length by omega] at st1
  refine wpAny_bind (wpAny_holding (W.done (C.S h1 k1) _ _ st1 fun h2 k2 kp2 => ?_))
  simp only [Option.isSome_none, Bool.false_eq_true, if_false]
  have hI : h.get? h.objs.size = none := get_fresh h
  have S0 : Step C.K [] G mu h G mu (h.push o) := Step.grow g (push_sub h o)
  have gI : G.get? h.objs.size = none := by
    cases e : G.get? h.objs.size with
    | none => rfl
    | some o => have := g.sub _ _ e; rw [hI] at this; cases this
  refine wpAny_pure (q vs h2 k2 (S0.junk hI gI g.fresh fun b o ne e => kp2 b o (by simpa using ne) (kp b o ne e)) ⟨hl.trans hj.symm, fun i u z e1 e2 => hP i u z ?_ e2⟩)
  have := hv i u e1
  rwa [Nat.zero_add] at this
theorem A_tuple {elts : List Expr} {kk : Nat} {pos : Pos} {y : AV} {P : Mp → Led → Prop} (items : List AV) (hy : y = .list items ∨ y = .tup items) (hn : (assignEach elts env).length = items.length) (hst : (assignEach elts env).findIdx? (·.1) = none)
    (h : TAL C n env m ((assignEach elts env).map (·.2)) items mu P) : TA C n env m (assign (.Tuple elts kk pos) env) y mu P := by
  intro A a G hh k v g V r Q q
  show wpAny _ _ (standAt pos >>= fun _ => unpack v (assignEach elts env)) _ _ _
  refine wpAny_bind (wpAny_standAt ?_)
  unfold unpack
  rw [hst]
  refine wpAny_bind (wpAny_holding (unpack_ok a.hd g r hy hn.symm fun vs h1 k1 S1 I => ?_))
  exact h A a G h1 k1 vs S1.gm (V.step S1) I Q fun m2 G2 mu2 h2 k2 S2 V2 p2 => q _ _ _ _ _ (S1.e.trans S2) V2 p2

/-- a, b = e, f with both names the block's own -/
theorem X_swap2 {a b : Str} {pa pb tp vp pos : Pos} {k1 k2 : Nat} {e f : Expr} {P : AFl → Mp → Led → Prop} (ka : env.kindOf a = some .local) (kb : env.kindOf b = some .local)
    (h : T C n env m (.Tuple [e, f] k2 vp) mu fun y mu₁ => ∃ y1 y2, y = .tup [y1, y2] ∧ P .next ((a, y1) :: (b, y2) :: m) mu₁)
    (hs : swapsWithSole [.Tuple [.Name a pa, .Name b pb] k1 tp] (.Tuple [e, f] k2 vp) pos.line env = pure false := by rfl)
    (hw : swappedStores [.Tuple [.Name a pa, .Name b pb] k1 tp] (.Tuple [e, f] k2 vp) env = pure (some [a, b]) := by rfl) :
    TX C n env m (exec (.Assign [.Tuple [.Name a pa, .Name b pb] k1 tp] (.Tuple [e, f] k2 vp) pos) env) mu P := by
  intro A ha G hh t g V Q q
  rw [exec_Assign_arm]
  refine wpAny_bind (wpAny_standAt ?_)
  rw [hs]
  refine wpAny_bind (wpAny_pure ?_)
  rw [if_neg Bool.false_ne_true]
  refine wpAny_bind (h A ha G hh t g V _ fun v y G1 mu1 h1 t1 S1 R1 p1 => ?_)
  obtain ⟨y1, y2, rfl, p1⟩ := p1
  rw [hw]
  refine wpAny_bind (wpAny_pure ?_)
  show wpAny _ _ (rule "assign.swapped-stores" >>= fun _ => unpackItems v 2 none >>= fun items => assignInOrder ([b, a].map fun n => bindName env n) items.reverse >>= fun _ => pure Flow.next) _ _ _
  refine wpAny_bind (wpAny_rule (wpAny_bind (unpack_ok ha.hd S1.gm R1 (.inr rfl) rfl fun vs h2 t2 S2 I => ?_)))
  obtain ⟨v1, v2, rfl⟩ : ∃ v1 v2, vs = [v1, v2] := by
    match vs, I.1 with
    | [v1, v2], _ => exact ⟨v1, v2, rfl⟩
  have V2 := (V.step S1).step S2
  show wpAny _ _ (assignInOrder [bindName env b, bindName env a] [v2, v1] >>= _) _ _ _
  refine wpAny_bind (wpAny_assignInOrder_more (wpAny_bindName (store_ok S2.gm V2 I.tail.head (.inl kb) fun h3 t3 S3 V3 => ?_)))
  refine wpAny_assignInOrder_more (wpAny_bindName (store_ok S3.gm V3 I.head (.inl ka) fun h4 t4 S4 V4 => wpAny_assignInOrder_none (wpAny_pure ?_)))
  exact q _ _ _ _ _ _ _ (S1.e.trans (S2.e.trans (S3.trans S4))) V4 .next p1
end

/-! ### C13 -/
theorem mapSeq_plain (f : Array Value → Array Value) (its : Array Value) (n : Nat) : ∃ n', Obj.mapSeq f { cls := .type "list", data := .seq its n } = { cls := .type "list", data := .seq (f its) n' } := ⟨_, rfl⟩

section
variable {prog : Program} {w : World} {A : Around} {E : Value → Shared → Prop} {s : Shared}
theorem setItem_plain {l : Addr} {items : Array Value} {k : Int} {t : Tok} {v : Value} {Q : Unit → Shared → Prop} (hl : s.heap.PlainList l items) (h0 : 0 ≤ k) (hfit : k < 2 ^ 63) (hn : k < items.size)
    (hQ : ∀ h', h'.PlainList l (items.setIfInBounds k.toNat v) → Heap.SameBut l s.heap h' → Q () { s with heap := h' }) : wpAny (model prog w) A (setItem (.ref l) (.int k t) v) Q E s := by
  obtain ⟨n, ho⟩ := hl
  obtain ⟨n', e⟩ := mapSeq_plain (·.setIfInBounds k.toNat v) items n
  exact ki_setAt ho h0 hfit hn (hQ _ ⟨n', by rw [Heap.get?_update_self _ ho (by rw [e]; rfl), e]⟩ (Heap.SameBut.update ..))

theorem bounds_in {j k n : Nat} (h1 : j ≤ k) (h2 : k ≤ n) : sliceBounds (some j) (some k) none n = ((j : Int), (k : Int), 1) := by
  unfold sliceBounds
  simp only [Option.getD_none, show (1 : Int) > 0 by decide, if_true]
  rw [if_neg (by omega), if_neg (by omega)]
  congr 1
  · omega
  · congr 1; omega
theorem put_slice {vs us : List Value} {j k : Nat} : vs.toArray.extract 0 j ++ us.toArray ++ vs.toArray.extract k vs.toArray.size = (vs.take j ++ us ++ vs.drop k).toArray := by
  apply Array.toList_inj.mp
  simp [List.take_of_length_le]
theorem setItem_slice {l b sl : Addr} {vs us : List Value} {vl vu : Value} {j k : Nat} {Q : Unit → Shared → Prop} (hl : s.heap.PlainList l vs.toArray) (hb : s.heap.PlainList b us.toArray) (hne : l ≠ b)
    (hs : s.heap.IsSliceOf sl vl vu .none) (pl : IsPart vl (some (j : Int))) (pu : IsPart vu (some (k : Int))) (h1 : j ≤ k) (h2 : k ≤ vs.length) (hz : vs.length + us.length ≤ 1000000)
    (hQ : ∀ h', h'.PlainList l (vs.take j ++ us ++ vs.drop k).toArray → Heap.SameBut l s.heap h' → Q () { s with heap := h' }) : wpAny (model prog w) A (setItem (.ref l) (.ref sl) (.ref b)) Q E s := by
  obtain ⟨n, ho⟩ := hl
  obtain ⟨n2, ho2⟩ := hb
  obtain ⟨os, hos, hcs, hds⟩ := id hs
  have hTs : s.TypeIs (.ref sl) "slice" := ⟨os, hos, hcs⟩
  have hT : s.TypeIs (.ref l) "list" := ⟨_, ho, rfl⟩
  have hTb : s.TypeIs (.ref b) "list" := ⟨_, ho2, rfl⟩
  unfold setItem
  try with_reducible refine wpAny_holding ?_
  first | refine wpAny_bind (wpAny_pure ?_) | skip
  refine wpAny_bind (wpAny_sequenceKey hT (by decide) ?_)
  refine wpAny_bind (wpAny_callSpecial?_slot (name := Str.ofString "__setitem__") hT slot_list_setitem (wpAny_call_entry slot_list_setitem hT entry_list_setitem ?_ (args_list_setitem _ _ _)))
  show wpAny _ _ (Builtin.List.listSubscript? (.ref sl) >>= _) _ _ s
  refine wpAny_bind ?_
  unfold Builtin.List.listSubscript?
  refine wpAny_bind (wpAny_specialOf hTs slice_no_index ?_)
  simp only [Option.isNone_none, if_true]
  refine wpAny_pure ?_
  show wpAny _ _ (typeOf (.ref sl) >>= _) _ _ s
  refine wpAny_bind (wpAny_typeOf hTs ?_)
  rw [if_neg (by decide)]
  rw [listSliceParts_eq]
  refine wpAny_bind (wpAny_bind (wpAny_field hos hds (x := .none) rfl (wpAny_bind (wpAny_listPart .none ?_))))
  rw [if_neg (show ¬ ((rawPart none == rawInt 0) = true) from Bool.false_ne_true)]
  refine wpAny_bind (wpAny_field hos hds (x := vl) rfl (wpAny_bind (wpAny_listPart pl ?_)))
  refine wpAny_bind (wpAny_field hos hds (x := vu) rfl (wpAny_bind (wpAny_listPart pu (wpAny_pure ?_))))
  have hsame : Builtin.List.listSameRef (.ref l) (.ref b) = false := by
    show (l == b) = false
    exact beq_eq_false_iff_ne.mpr hne
  have hnew : ∀ (Q : Array Value → Shared → Prop), Q us.toArray s → wpAny (model prog w) A.in1 (Builtin.List.listAllItems (.ref b) "must assign iterable to extended slice") Q E s := fun Q q => by
    unfold Builtin.List.listAllItems
    refine wpAny_bind (wpAny_typeOf hTb ?_)
    rw [if_pos (by decide)]
    show wpAny _ _ (Builtin.List.listItems (.ref b)) _ _ _
    unfold Builtin.List.listItems
    exact wpAny_bind (wpAny_seqItems ho2 rfl (wpAny_pure q))
  rw [hsame]
  simp only [Bool.false_eq_true, if_false]
  refine wpAny_bind (hnew _ ?_)
  refine wpAny_bind (m := Builtin.List.listItems (.ref l)) ?_
  unfold Builtin.List.listItems
  refine wpAny_bind (wpAny_seqItems ho rfl (wpAny_pure ?_))
  refine wpAny_bind (wpAny_of_eq (sliceIndices_raw (some (j : Int)) (some (k : Int)) none vs.toArray.size (by simp)) ?_)
  have hb3 : sliceBounds (some (j : Int)) (some (k : Int)) none vs.toArray.size = ((j : Int), (k : Int), 1) := bounds_in h1 (by rw [List.size_toArray]; exact h2)
  rw [hb3]
  dsimp only
  rw [if_pos (by decide)]
  refine wpAny_bind (wpAny_rule ?_)
  have hlong : Builtin.List.listTooLong (vs.toArray.size + us.toArray.size) = false := by
    unfold Builtin.List.listTooLong
    rw [List.size_toArray, List.size_toArray, sizeLine_eq]
    exact decide_eq_false (by omega)
  rw [hlong]
  simp only [Bool.false_eq_true, if_false]
  have hmax : (max (j : Int) (k : Int)).toNat = k := by omega
  have hj : (j : Int).toNat = j := by omega
  rw [hmax, hj]
  have hsz : ((fun xs : Array Value => xs.extract 0 j ++ us.toArray ++ xs.extract k xs.size) vs.toArray).size ≤ sizeLine + 1 := by
    dsimp only
    rw [put_slice, List.size_toArray, sizeLine_eq]
    simp; omega
  obtain ⟨n', e⟩ := mapSeq_plain (fun xs => xs.extract 0 j ++ us.toArray ++ xs.extract k xs.size) vs.toArray n
  have hfin : (s.heap.update l (Obj.mapSeq (fun xs => xs.extract 0 j ++ us.toArray ++ xs.extract k xs.size))).PlainList l (vs.take j ++ us ++ vs.drop k).toArray :=
    ⟨n', by rw [Heap.get?_update_self _ ho (by rw [e]; rfl), e, put_slice]⟩
  have fin : wpAny (model prog w) A.in1 (Builtin.List.listUpdate (.ref l) (fun xs => xs.extract 0 j ++ us.toArray ++ xs.extract k xs.size)) (fun _ s' => s' = { s with heap := s.heap.update l (Obj.mapSeq (fun xs => xs.extract 0 j ++ us.toArray ++ xs.extract k xs.size)) }) E s :=
    wpAny_updateSeq ho rfl rfl (by rw [List.size_toArray, sizeLine_eq]; omega) hsz
  refine wpAny_bind (wpAny_mono fin (fun _ s' e' => ?_) fun _ _ x => x)
  subst e'
  refine wpAny_bind (wpAny_letGo ?_)
  exact wpAny_pure ⟨.none, rfl, wpAny_pure (hQ _ hfin (Heap.SameBut.update ..))⟩
end

section
variable {C : Cfg} {n : Nat} {env : Env} {m : Mp} {mu : Led}
theorem plain_slot (i : Expr) : ∀ (_ : (match i with | .Slice .. => false | _ => true) = true) (a b c : Value), (match i with | .Slice _ _ none _ => [c, a, b] | _ => [a, b, c]) = [a, b, c] := by
  intro h a b c
  cases i <;> first | rfl | cases h
inductive KSi2 (m : Mp) (y : AV) (P : Mp → Led → Prop) (ov : AV) (iv : AV) (mu₂ : Led) : Prop
  | mk (c : Addr) (k : Int) (l : List AV) (h1 : ov = .val (.ref c)) (h2 : iv = .int k) (h3 : mu₂ c = some (.list l)) (h4 : 0 ≤ k) (h5 : k < l.length) (h6 : l.length ≤ 1000000) (h7 : P m (put mu₂ c (.list (l.set k.toNat y))))
noncomputable abbrev KSi (C : Cfg) (n : Nat) (env : Env) (m : Mp) (i : Expr) (y : AV) (P : Mp → Led → Prop) : AV → Led → Prop := fun ov mu₁ => T C n env m i mu₁ (KSi2 m y P ov)
inductive KSs3 (m : Mp) (new : List AV) (P : Mp → Led → Prop) (ov a : AV) (b : AV) (mu₃ : Led) : Prop
  | mk (c : Addr) (j k : Int) (l : List AV) (h1 : ov = .val (.ref c)) (h2 : a = .int j) (h3 : b = .int k) (h4 : mu₃ c = some (.list l)) (h5 : 0 ≤ j) (h6 : j ≤ k) (h7 : k ≤ l.length) (h8 : l.length + new.length ≤ 1000000)
    (h9 : P m (put mu₃ c (.list (l.take j.toNat ++ new ++ l.drop k.toNat))))
noncomputable abbrev KSs2 (C : Cfg) (n : Nat) (env : Env) (m : Mp) (hi : Expr) (new : List AV) (P : Mp → Led → Prop) (ov : AV) : AV → Led → Prop := fun a mu₂ => T C n env m hi mu₂ (KSs3 m new P ov a)
noncomputable abbrev KSs (C : Cfg) (n : Nat) (env : Env) (m : Mp) (lo hi : Expr) (new : List AV) (P : Mp → Led → Prop) : AV → Led → Prop := fun ov mu₁ => T C n env m lo mu₁ (KSs2 C n env m hi new P ov)
theorem A_item {o i : Expr} {pos : Pos} {y : AV} {P : Mp → Led → Prop}
    (h : T C n env m o mu (KSi C n env m i y P)) :
    TA C n env m (assign (.Subscript o i pos) env) y mu P := by
  intro A a G hh t v g V r Q q
  show wpAny _ _ (do
    let ov ← holding [v] (eval o env)
    let iv ← holding [v, ov] (eval i env)
    standAt pos
    holding [v, ov, iv] (setItem ov iv v)
    release (match (generalizing := false) i with | .Slice _ _ none _ => [iv, v, ov] | _ => [v, ov, iv]) []) _ _ _
  refine wpAny_bind (wpAny_holding (h A a G hh t g V _ fun vo ov G1 mu1 h1 t1 S1 R1 p1 => ?_))
  refine wpAny_bind (wpAny_holding (p1 A a G1 h1 t1 S1.gm (V.step S1) _ fun vi iv G2 mu2 h2 t2 S2 R2 p2 => ?_))
  obtain ⟨c, k, l, rfl, rfl, e, h0, hk, hz, p⟩ := p2
  cases R1; cases R2
  obtain ⟨vs, pv, I⟩ := (S2.gm.led c _ e).2
  refine wpAny_bind (wpAny_standAt (wpAny_bind (wpAny_holding (setItem_plain (s := C.S h2 t2) pv h0 (by omega) (by rw [List.size_toArray, I.1]; exact hk) fun h3 l3 sb => wpAny_release ?_))))
  have e3 : vs.toArray.setIfInBounds k.toNat v = (vs.set k.toNat v).toArray := by simp
  rw [e3] at l3
  have S3 : Step C.K [] G2 mu2 h2 G2 (put mu2 c (.list (l.set k.toNat y))) h3 := Step.put S2.gm e sb.2 ⟨_, l3, I.set (r.mono (S1.sub.trans S2.sub))⟩
  exact q _ _ _ _ _ (S1.e.trans (S2.e.trans S3.e)) (((V.step S1).step S2).step S3) p
theorem A_slice {o lo hi : Expr} {p pos : Pos} {new : List AV} {P : Mp → Led → Prop}
    (h : T C n env m o mu (KSs C n env m lo hi new P)) :
    TA C n env m (assign (.Subscript o (.Slice (some lo) (some hi) none p) pos) env) (.list new) mu P := by
  intro A a G hh t v g V r Q q
  show wpAny _ _ (do
    let ov ← holding [v] (eval o env)
    let iv ← holding [v, ov] (eval (.Slice (some lo) (some hi) none p) env)
    standAt pos
    holding [v, ov, iv] (setItem ov iv v)
    release [iv, v, ov] []) _ _ _
  refine wpAny_bind (wpAny_holding (h A a G hh t g V _ fun vo ov G1 mu1 h1 t1 S1 R1 p1 => ?_))
  refine wpAny_bind (wpAny_holding (wpAny_Slice ?_))
  rw [evalPart_some, evalPart_some]
  refine p1 A a G1 h1 t1 S1.gm (V.step S1) _ fun vj aj G2 mu2 h2 t2 S2 R2 p2 => ?_
  refine p2 A a G2 h2 t2 S2.gm ((V.step S1).step S2) _ fun vk ak G3 mu3 h3 t3 S3 R3 p3 => ?_
  obtain ⟨c, j, k, l, rfl, rfl, rfl, e, h0, hjk, hkl, hz, p⟩ := p3
  cases R1; cases R2; cases R3
  rw [evalPart_none]
  refine wpAny_pure ?_
  obtain ⟨hcG, vs, pv, I⟩ := S3.gm.led c _ e
  have rr := r.mono (S1.sub.trans (S2.sub.trans S3.sub))
  cases rr with
  | list pb hl hi =>
    rename_i tj tk b us
    obtain ⟨j, rfl⟩ := Int.eq_ofNat_of_zero_le h0
    obtain ⟨k, rfl⟩ := Int.eq_ofNat_of_zero_le (show 0 ≤ k by omega)
    have hne : c ≠ b := fun z => by obtain ⟨_, pb⟩ := pb; rw [← z, hcG] at pb; cases pb
    have kp := push_sub h3 { cls := .type "slice", data := .fields #[.int (j : Int) tj, .int (k : Int) tk, .none] }
    have S4 : Step C.K [] G3 mu3 h3 G3 mu3 _ := Step.grow S3.gm kp
    refine wpAny_bind (wpAny_standAt (wpAny_bind (wpAny_holding (setItem_slice (s := C.S _ t3) (pv.at fun o e => kp _ o e) (pb.at fun o e => kp _ o (S3.gm.sub _ _ e)) hne (Heap.IsSliceOf.new ..) (.int _ _) (.int _ _) (by omega) (by rw [I.1]; omega) (by rw [I.1, hl]; exact hz) fun h5 l5 sb => wpAny_release ?_))))
    have S5 : Step C.K [] G3 mu3 _ G3 (put mu3 c (.list (l.take j ++ new ++ l.drop k))) h5 := Step.put S4.gm e sb.2 ⟨_, l5, ((I.take j).append ⟨hl, hi⟩).append (I.drop k)⟩
    exact q _ _ _ _ _ (S1.e.trans (S2.e.trans (S3.e.trans (S4.e.trans S5.e)))) (((((V.step S1).step S2).step S3).step S4).step S5) p
end

/-! ### C14 -/
/-- a row of ints; rows of ints -/
noncomputable abbrev rowAV (r : List Int) : AV := .list (r.map .int)
noncomputable abbrev rowsAV (R : List (List Int)) : AV := .list (R.map rowAV)

theorem reads_ints {G : Heap} : ∀ {vs : List Value} {ns : List Int}, Its G vs (ns.map .int) → ReadsAll G vs (ns.map .int) []
  | [], [], _ => .nil
  | [], _ :: _, I => by have := I.1; simp at this
  | _ :: _, [], I => by have := I.1; simp at this
  | v :: vs, k :: ns, I => by
    have h := I.head
    cases h
    exact ReadsAll.cons (as := []) (bs := []) (.int _ _) (reads_ints I.tail)
theorem reads_row {G : Heap} {v : Value} {r : List Int} (h : At G v (rowAV r)) : ∃ as, Reads G v (.list (r.map .int)) as := by
  cases h with
  | list p hl hi => obtain ⟨n, p⟩ := p; exact ⟨_, Reads.list p rfl rfl (by simpa using reads_ints ⟨hl, hi⟩)⟩
theorem reads_rowsAll {G : Heap} : ∀ {vs : List Value} {R : List (List Int)}, Its G vs (R.map rowAV) → ∃ as, ReadsAll G vs (R.map fun r => PyData.list (r.map .int)) as
  | [], [], _ => ⟨_, .nil⟩
  | [], _ :: _, I => by have := I.1; simp at this
  | _ :: _, [], I => by have := I.1; simp at this
  | v :: vs, r :: R, I => by
    obtain ⟨as, a⟩ := reads_row I.head
    obtain ⟨bs, b⟩ := reads_rowsAll I.tail
    exact ⟨_, ReadsAll.cons a b⟩
theorem reads_rows {G : Heap} {v : Value} {R : List (List Int)} (h : At G v (rowsAV R)) : ∃ as, Reads G v (.list (R.map fun r => PyData.list (r.map .int))) as := by
  cases h with
  | list p hl hi =>
    obtain ⟨n, p⟩ := p
    obtain ⟨as, a⟩ := reads_rowsAll (R := R) ⟨hl, hi⟩
    exact ⟨_, Reads.list p rfl rfl (by simpa using a)⟩
theorem lay_ints : ∀ ns : List Int, PyData.canLayAll0 (ns.map PyData.int) = true
  | [] => rfl
  | _ :: r => by simp only [List.map_cons, PyData.canLayAll0, PyData.canLay0, lay_ints r, Bool.and_self]
theorem depth_ints : ∀ ns : List Int, PyData.depthAll (ns.map PyData.int) = 0
  | [] => rfl
  | _ :: r => by simp [PyData.depthAll, PyData.depth, depth_ints r]
theorem lay_rows : ∀ R : List (List Int), PyData.canLayAll0 (R.map fun r => PyData.list (r.map .int)) = true
  | [] => rfl
  | r :: R => by simp only [List.map_cons, PyData.canLayAll0, PyData.canLay0, lay_ints, lay_rows R, Bool.and_self]
theorem depth_rows : ∀ R : List (List Int), PyData.depthAll (R.map fun r => PyData.list (r.map .int)) ≤ 1
  | [] => Nat.zero_le _
  | r :: R => by
    have := depth_rows R
    simp only [List.map_cons, PyData.depthAll, PyData.depth, depth_ints]; omega

section
variable {C : Cfg} {n : Nat} {env : Env} {m : Mp} {mu : Led}
theorem eq_data {A : Around} {G h : Heap} {k : Nat} {v u : Value} {d : PyData} {as bs : List Addr} {Q : Value → Shared → Prop} (a : Aok n A) (s : Sub G h) (r1 : Reads G v d as) (r2 : Reads G u d bs) (hl : d.canLay0 = true) (hd : d.depth ≤ 10)
    (q : Q (.bool true) (C.S h k)) : wpAny C.M A (compareOp .Eq v u) Q No (C.S h k) := by
  refine SeqAt.compareEq_reads (s := C.S h k) (Reads.keeps s r1) (Reads.keeps s r2) hl hl ?_ ?_
  · have := a.un; rw [Nat.min_self]; show A.units + d.depth < 9900; omega
  · rw [SeqAt.eqv_refl d hl]; exact q
theorem ne_data {A : Around} {G h : Heap} {k : Nat} {v u : Value} {d : PyData} {as bs : List Addr} {Q : Value → Shared → Prop} (a : Aok n A) (s : Sub G h) (r1 : Reads G v d as) (r2 : Reads G u d bs) (hl : d.canLay0 = true) (hd : d.depth ≤ 10)
    (q : Q (.bool false) (C.S h k)) : wpAny C.M A (compareOp .NotEq v u) Q No (C.S h k) := by
  refine SeqAt.compareNe_reads (s := C.S h k) (Reads.keeps s r1) (Reads.keeps s r2) hl hl ?_ ?_
  · have := a.un; rw [Nat.min_self]; show A.units + d.depth < 9900; omega
  · rw [SeqAt.eqv_refl d hl]; exact q
theorem rows_ok (R : List (List Int)) : PyData.canLay0 (.list (R.map fun r => PyData.list (r.map .int))) = true ∧ PyData.depth (.list (R.map fun r => PyData.list (r.map .int))) ≤ 10 := by
  have := depth_rows R
  exact ⟨by simp only [PyData.canLay0, lay_rows], by simp only [PyData.depth]; omega⟩
theorem O_eq_rows {R : List (List Int)} {P : AV → Led → Prop} (h : P (.val (.bool true)) mu) : Op2 C n At (compareOp .Eq) (rowsAV R) (rowsAV R) mu P := by
  intro A a G hh t v u g r1 r2 Q q
  obtain ⟨as, x⟩ := reads_rows r1
  obtain ⟨bs, y⟩ := reads_rows r2
  exact eq_data a g.sub x y (rows_ok R).1 (rows_ok R).2 (q _ _ _ _ hh t (.refl g) (.val _) h)
theorem B_ne_rows {R : List (List Int)} {P : Bool → Led → Prop} (h : P false mu) : Op2 C n (fun _ v b => v = Value.bool b) (compareOp .NotEq) (rowsAV R) (rowsAV R) mu P := by
  intro A a G hh t v u g r1 r2 Q q
  obtain ⟨as, x⟩ := reads_rows r1
  obtain ⟨bs, y⟩ := reads_rows r2
  exact ne_data a g.sub x y (rows_ok R).1 (rows_ok R).2 (q _ _ _ _ hh t (.refl g) rfl h)
theorem B_ne_row {r : List Int} {P : Bool → Led → Prop} (h : P false mu) : Op2 C n (fun _ v b => v = Value.bool b) (compareOp .NotEq) (rowAV r) (rowAV r) mu P := by
  intro A a G hh t v u g r1 r2 Q q
  obtain ⟨as, x⟩ := reads_row r1
  obtain ⟨bs, y⟩ := reads_row r2
  exact ne_data a g.sub x y (by simp only [PyData.canLay0, lay_ints]) (by simp only [PyData.depth, depth_ints]; omega) (q _ _ _ _ hh t (.refl g) rfl h)
theorem B_ne_tup {r : List Int} {P : Bool → Led → Prop} (h : P false mu) : Op2 C n (fun _ v b => v = Value.bool b) (compareOp .NotEq) (.tup (r.map .int)) (.tup (r.map .int)) mu P := by
  intro A a G hh t v u g r1 r2 Q q
  cases r1 with
  | tup p hl hi =>
    cases r2 with
    | tup p2 hl2 hi2 =>
      obtain ⟨_, p⟩ := p
      obtain ⟨_, p2⟩ := p2
      exact ne_data a g.sub (Reads.tuple p rfl rfl (by simpa using reads_ints ⟨hl, hi⟩)) (Reads.tuple p2 rfl rfl (by simpa using reads_ints ⟨hl2, hi2⟩)) (by simp only [PyData.canLay0, lay_ints]) (by simp only [PyData.depth, depth_ints]; omega) (q _ _ _ _ hh t (.refl g) rfl h)

/-! ### built-ins -/
theorem op_one {f : Value} {a : AV} {P : AV → Led → Prop} (h : Op1 C n At (fun v => call f [v]) a mu P) : Call C n f [a] mu P := by
  intro A ha G hh t vs g I Q q
  match vs, I with
  | [v], I => exact h A ha G hh t v g I.head Q q
  | [], I => have := I.1; simp at this
  | _ :: _ :: _, I => have := I.1; simp at this
theorem op_two {f : Value} {a b : AV} {P : AV → Led → Prop} (h : Op2 C n At (fun v u => call f [v, u]) a b mu P) : Call C n f [a, b] mu P := by
  intro A ha G hh t vs g I Q q
  match vs, I with
  | [v, u], I => exact h A ha G hh t v u g I.head I.tail.head Q q
  | [], I => have := I.1; simp at this
  | [_], I => have := I.1; simp at this
  | _ :: _ :: _ :: _, I => have := I.1; simp at this
theorem F_len {l : List AV} {P : AV → Led → Prop} (hz : l.length ≤ 1000000) (h : P (.int l.length) mu) : Call C n (.builtin "len") [.list l] mu P := op_one fun A a G hh t v g r Q q => by
  cases r with
  | list p hl hi =>
    rename_i c vs
    refine call_len_list (s := C.S hh t) (p.at fun o e => g.sub _ o e).isList (by rw [List.size_toArray, hl]; omega) ?_
    rw [List.size_toArray, hl]
    exact q _ _ _ _ hh _ (.refl g) (.int _ _) h
theorem F_lenT {l : List AV} {P : AV → Led → Prop} (hz : l.length ≤ 1000000) (h : P (.int l.length) mu) : Call C n (.builtin "len") [.tup l] mu P := op_one fun A a G hh t v g r Q q => by
  cases r with
  | tup p hl hi =>
    refine len_tuple (s := C.S hh t) (p.sub g.sub).isTup (by rw [List.size_toArray, hl]; omega) ?_
    rw [List.size_toArray, hl]
    exact q _ _ _ _ hh _ (.refl g) (.int _ _) h
theorem F_abs {i : Int} {P : AV → Led → Prop} (h : P (.int i.natAbs) mu) : Call C n (.builtin "abs") [.int i] mu P := op_one fun A a G hh t v g r Q q => by
  cases r
  refine call_abs_int (s := C.S hh t) fun u tk => ?_
  have e : (if i < 0 then -i else i) = (i.natAbs : Int) := by split <;> omega
  rw [e]
  exact q _ _ _ _ hh _ (.refl g) (.int _ _) h
theorem F_int {i : Int} {P : AV → Led → Prop} (h : P (.int i) mu) : Call C n (.type "int") [.int i] mu P := op_one fun A a G hh t v g r Q q => by
  cases r
  exact call_int_int (s := C.S hh t) (q _ _ _ _ hh _ (.refl g) (.int _ _) h)
theorem F_intB {b : Bool} {P : AV → Led → Prop} (h : P (.int (if b then 1 else 0)) mu) : Call C n (.type "int") [.val (.bool b)] mu P := op_one fun A a G hh t v g r Q q => by
  cases r
  exact call_int_bool (s := C.S hh t) (q _ _ _ _ hh _ (.refl g) (.int _ _) h)
theorem F_range1 {b : Int} {P : AV → Led → Prop} (h : P (.range 0 b 1) mu) : Call C n (.type "range") [.int b] mu P := op_one fun A a G hh t v g r Q q => by
  cases r
  refine call_range_1 (s := C.S hh t) ?_
  obtain ⟨G2, S2, e⟩ := Step.alloc (L := []) g { cls := .type "range", data := .fields #[.int 0 t, .int b _, .int 1 (t + 1)] } rfl
  exact q _ _ G2 mu _ _ S2 (.range e) h
theorem F_range2 {b c : Int} {P : AV → Led → Prop} (h : P (.range b c 1) mu) : Call C n (.type "range") [.int b, .int c] mu P := op_two fun A a G hh t v u g r r2 Q q => by
  cases r; cases r2
  refine call_range_2 (s := C.S hh t) ?_
  obtain ⟨G2, S2, e⟩ := Step.alloc (L := []) g { cls := .type "range", data := .fields #[.int b _, .int c _, .int 1 t] } rfl
  exact q _ _ G2 mu _ _ S2 (.range e) h
theorem F_range3 {b c d : Int} {P : AV → Led → Prop} (hd : d ≠ 0) (hz : d.natAbs < 1000000) (h : P (.range b c d) mu) : Call C n (.type "range") [.int b, .int c, .int d] mu P := by
  intro A ha G hh t vs g I Q q
  match vs, I with
  | [v, u, w], I =>
    have a1 := I.head
    have a2 := I.tail.head
    have a3 := I.tail.tail.head
    cases a1; cases a2; cases a3
    refine call_range_3 (s := C.S hh t) hd ?_ (.inl (PyProof.noPylong_small (by omega)))
    obtain ⟨G2, S2, e⟩ := Step.alloc (L := []) g { cls := .type "range", data := .fields #[.int b _, .int c _, .int d _] } rfl
    exact q _ _ G2 mu _ _ S2 (.range e) h
  | [], I => have := I.1; simp at this
  | [_], I => have := I.1; simp at this
  | [_, _], I => have := I.1; simp at this
  | _ :: _ :: _ :: _ :: _, I => have := I.1; simp at this
theorem F_max2 {a b : Int} {P : AV → Led → Prop} (h : P (.int (max a b)) mu) : Call C n (.builtin "max") [.int a, .int b] mu P := op_two fun A ha G hh t v u g r r2 Q q => by
  cases r; cases r2
  refine max_two_ints (s := C.S hh t) ha.hd fun h' tk kp => ?_
  have S := Step.grow (L := []) g (h' := h') kp
  split
  · have e : max a b = b := by omega
    rw [e] at h
    exact q _ _ _ _ h' _ S (.int _ _) h
  · have e : max a b = a := by omega
    rw [e] at h
    exact q _ _ _ _ h' _ S (.int _ _) h
theorem F_min2 {a b : Int} {P : AV → Led → Prop} (h : P (.int (min a b)) mu) : Call C n (.builtin "min") [.int a, .int b] mu P := op_two fun A ha G hh t v u g r r2 Q q => by
  cases r; cases r2
  refine min_two_ints (s := C.S hh t) ha.hd fun h' tk kp => ?_
  have S := Step.grow (L := []) g (h' := h') kp
  split
  · have e : min a b = b := by omega
    rw [e] at h
    exact q _ _ _ _ h' _ S (.int _ _) h
  · have e : min a b = a := by omega
    rw [e] at h
    exact q _ _ _ _ h' _ S (.int _ _) h
theorem F_max1 {a : Int} {P : AV → Led → Prop} (h : P (.int a) mu) : Call C n (.builtin "max") [.list [.int a]] mu P := op_one fun A ha G hh t v g r Q q => by
  cases r with
  | list p hl hi =>
    rename_i c vs
    obtain ⟨w, rfl⟩ : ∃ w, vs = [w] := by
      match vs, hl with
      | [w], _ => exact ⟨w, rfl⟩
    have hw := hi 0 w _ rfl rfl
    cases hw with
    | int i tk =>
      have hx : hh.IsList c (intItems #[(a, tk)]) := by
        have e : intItems #[(a, tk)] = #[Value.int a tk] := by simp [intItems]
        rw [e]; exact (p.at (h' := hh) fun o e => g.sub _ o e).isList
      refine max_intList (s := C.S hh t) (xs := #[(a, tk)]) ha.hd hx (by simp) fun v h' k' hv kp => ?_
      have : argBest (fun i j => decide (numAt #[(a, tk)] i > numAt #[(a, tk)] j)) ((#[(a, tk)] : Array (Int × Tok)).size - 1) = 0 := by simp [argBest]
      rw [this] at hv
      have e : v = .int a tk := by simpa [intItems] using hv.symm
      subst e
      exact q _ _ _ _ h' _ (Step.grow (L := []) g kp) (.int _ _) h
theorem F_list {l : List AV} {P : AV → Led → Prop} (hz : l.length ≤ 1000000) (h : P (.list l) mu) : Call C n (.type "list") [.list l] mu P := op_one fun A a G hh t v g r Q q => by
  cases r with
  | list p hl hi =>
    rename_i c vs
    obtain ⟨j, e⟩ := p.at (h' := hh) fun o e => g.sub _ o e
    refine call_list_seq (s := C.S hh t) c (.inl rfl) e rfl rfl (fun h' c' kp e' => ?_) (by rw [List.size_toArray, hl, sizeLine_eq]; omega)
    obtain ⟨G2, S2, e2⟩ := Step.allocB (L := []) g kp (get_fresh hh) e'
    exact q _ _ G2 mu _ _ S2 (.list ⟨_, e2⟩ hl fun i v y a b => (hi i v y a b).mono S2.sub) h
theorem F_tuple {l : List AV} {P : AV → Led → Prop} (hz : l.length ≤ 1000000) (h : P (.tup l) mu) : Call C n (.type "tuple") [.list l] mu P := op_one fun A a G hh t v g r Q q => by
  cases r with
  | list p hl hi =>
    rename_i c vs
    refine call_tuple_list (s := C.S hh t) ((p.at fun o e => g.sub _ o e).isList) (fun h' kp => ?_) (by rw [List.size_toArray, hl, sizeLine_eq]; omega)
    have S1 := Step.grow (L := []) g (h' := h') kp
    obtain ⟨G2, S2, e2⟩ := Step.alloc (L := []) S1.gm { cls := .type "tuple", data := .seq vs.toArray } rfl
    exact q _ _ G2 mu _ _ (S1.trans S2) (.tup ⟨_, e2⟩ hl fun i v y a b => (hi i v y a b).mono S2.sub) h
end

/-! ### C15 -/
section
variable {C : Cfg} {n : Nat} {env : Env} {m : Mp} {mu : Led}
theorem O_iadd {a b : Int} {P : AV → Led → Prop} (h : P (.int (a + b)) mu) : Op2 C n At (inplaceOp .Add) (.int a) (.int b) mu P := op2_int (fun _ _ _ _ _ q => wpAny_iadd_int q) h
/-- x op= e, x a name of the block -/
theorem X_aug {x : Str} {px pos : Pos} {value : Expr} {op : Operator} {y : AV} {P : AFl → Mp → Led → Prop} (e : m.lookup x = some y) (hk : env.kindOf x = some .local ∨ (env.kindOf x = some .cell ∧ (env.cells.lookup x).isSome = true))
    (h : T C n env m value mu fun b mu₁ => Op2 C n At (inplaceOp op) y b mu₁ fun r mu₂ => P .next ((x, r) :: m) mu₂) : TX C n env m (exec (.AugAssign (.Name x px) op value pos) env) mu P := by
  intro A a G hh t g V Q q
  obtain ⟨v, V1, V2⟩ := V.var x y e
  refine wpAny_AugAssign_Name ?_
  have main : wpAny C.M A (eval value env) (fun v_1 s₂ => wpAny C.M A (inplaceOp op v v_1) (fun r s₃ => wpAny C.M A (storeName env x r) (fun _ => Q .next) No s₃) No s₂) No (C.S hh t) := by
    refine h A a G hh t g V _ fun u b G1 mu1 h1 t1 S1 R1 p1 => ?_
    refine p1 A a G1 h1 t1 v u S1.gm (V2.mono S1.sub) R1 _ fun r z G2 mu2 h2 t2 S2 R2 p2 => ?_
    exact store_ok S2.gm ((V.step S1).step S2) R2 hk fun h3 t3 S3 V3 => q _ _ _ _ _ _ _ (S1.e.trans (S2.e.trans S3)) V3 .next p2
  rcases V1 with ⟨k, ml, b, c⟩ | ⟨k, c, b, d⟩
  · exact wpAny_loadName_local V.ok.kind k (s := C.S hh t) b c main
  · exact wpAny_loadName_cell V.ok.kind k b (s := C.S hh t) d main
noncomputable abbrev TurnW (m₀ : Mp) (J : Nat → Led → Prop) (i : Nat) : AFl → Mp → Led → Prop := fun f m'' mu'' => f = .next ∧ Le m₀ m'' ∧ J (i + 1) mu''
inductive ForW (C : Cfg) (n : Nat) (env : Env) (m₀ : Mp) (x : Str) (body : List Stmt) (P : AFl → Mp → Led → Prop) (it : AV) (mu₁ : Led) : Prop
  | mk (items : List AV) (hi : Iter it items) (J : Nat → Led → Prop) (j0 : J 0 mu₁) (turn : ∀ i mu' y, items[i]? = some y → J i mu' → TX C n env ((x, y) :: m₀) (execs body env) mu' (TurnW m₀ J i)) (done : ∀ mu', J items.length mu' → P .next m₀ mu')
theorem X_forW (m₀ : Mp) {x : Str} {px pos : Pos} {iter : Expr} {body : List Stmt} {P : AFl → Mp → Led → Prop} (hm : Le m₀ m)
    (hk : env.kindOf x = some .local ∨ (env.kindOf x = some .cell ∧ (env.cells.lookup x).isSome = true))
    (h : T C n env m₀ iter mu (ForW C n env m₀ x body P))
    (hs : ∀ x, foldedSetIterable iter env x = pure x := by intro _; rfl) : TX C n env m (exec (.For (.Name x px) iter body [] pos) env) mu P := by
  refine X_weak hm (X_for hk (h.mono ?_) hs)
  rintro it mu₁ ⟨items, hi, J, J0, turn, done⟩
  refine ⟨items, hi, fun i m' mu' => m' = m₀ ∧ J i mu', ⟨rfl, J0⟩, ?_, ?_⟩
  · rintro i m' mu' y hy ⟨rfl, j⟩
    refine (turn i mu' y hy j).mono ?_
    rintro f m'' mu'' ⟨rfl, hl, j'⟩
    exact ⟨rfl, _, hl, rfl, j'⟩
  · rintro m' mu' ⟨rfl, j⟩
    exact done mu' j
end

/-! ### P1 -/
noncomputable abbrev prg : Program := PySem.Challenge.pw_nz0256_01

theorem len1 {α : Type} {vs : List α} (h : vs.length = 1) : ∃ a, vs = [a] := by match vs, h with | [a], _ => exact ⟨a, rfl⟩
theorem len2 {α : Type} {vs : List α} (h : vs.length = 2) : ∃ a b, vs = [a, b] := by match vs, h with | [a, b], _ => exact ⟨a, b, rfl⟩
theorem len3 {α : Type} {vs : List α} (h : vs.length = 3) : ∃ a b c, vs = [a, b, c] := by match vs, h with | [a, b, c], _ => exact ⟨a, b, c, rfl⟩
theorem len4 {α : Type} {vs : List α} (h : vs.length = 4) : ∃ a b c d, vs = [a, b, c, d] := by match vs, h with | [a, b, c, d], _ => exact ⟨a, b, c, d, rfl⟩
theorem len5 {α : Type} {vs : List α} (h : vs.length = 5) : ∃ a b c d e, vs = [a, b, c, d, e] := by match vs, h with | [a, b, c, d, e], _ => exact ⟨a, b, c, d, e, rfl⟩
theorem len7 {α : Type} {vs : List α} (h : vs.length = 7) : ∃ a b c d e f g, vs = [a, b, c, d, e, f, g] := by match vs, h with | [a, b, c, d, e, f, g], _ => exact ⟨a, b, c, d, e, f, g, rfl⟩

/-- the program's name nm is the def that st writes -/
noncomputable def GF (K : Frag) (nm : Str) (st : Stmt) : Prop := ∃ f, nsIn K mainGlobals nm = some (some (.ref f)) ∧ FnIs K f nm nm st ∧ keepIn K (.ref f) = true
/-- the name is a built-in's -/
noncomputable def BF (K : Frag) (nm : Str) : Prop := nsIn K mainGlobals nm = some none

section
variable {C : Cfg} {n : Nat} {env : Env} {m : Mp} {mu : Led}
theorem T_callG {x : Str} {px pos : Pos} {st : Stmt} {e : Expr} {rest : List Expr} {P : AV → Led → Prop} (g : GF C.K x st) (hx : env.kindOf x = some .globalImplicit)
    (h : ∀ f, FnIs C.K f x x st → TL C n env m pos (e :: rest) mu (KCall C n (.ref f) P))
    (hd : (x == ("__debug__" : Str)) = false := by decide) (he : starEach (e :: rest) env = (false, eval e env) :: starEach rest env := by rfl) (hp : (backTo pos (starEach rest env)).any (·.1) = false := by rfl) :
    T C n env m (.Call (.Name x px) (e :: rest) [] pos) mu P := by
  obtain ⟨f, h1, h2, h3⟩ := g
  exact T_callK (T_glob h1 hx ⟨_, rfl, h3, h f h2⟩ hd) he hp
theorem T_callBn {x : Str} {px pos : Pos} {id : String} {e : Expr} {rest : List Expr} {P : AV → Led → Prop} (g : BF C.K x) (hx : env.kindOf x = some .globalImplicit) (hb : bootBuiltins x = some (.builtin id))
    (h : TL C n env m pos (e :: rest) mu (KCall C n (.builtin id) P)) (hn : x ≠ "__name__" := by decide)
    (hd : (x == ("__debug__" : Str)) = false := by decide) (he : starEach (e :: rest) env = (false, eval e env) :: starEach rest env := by rfl) (hp : (backTo pos (starEach rest env)).any (·.1) = false := by rfl) :
    T C n env m (.Call (.Name x px) (e :: rest) [] pos) mu P := T_callB (T_blt g hb hx ⟨_, rfl, h⟩ hn hd) he hp
theorem T_callTn {x : Str} {px pos : Pos} {id : String} {e : Expr} {rest : List Expr} {P : AV → Led → Prop} (g : BF C.K x) (hx : env.kindOf x = some .globalImplicit) (hb : bootBuiltins x = some (.type id))
    (h : TL C n env m pos (e :: rest) mu (KCall C n (.type id) P)) (hn : x ≠ "__name__" := by decide)
    (hd : (x == ("__debug__" : Str)) = false := by decide) (he : starEach (e :: rest) env = (false, eval e env) :: starEach rest env := by rfl) (hp : (backTo pos (starEach rest env)).any (·.1) = false := by rfl) :
    T C n env m (.Call (.Name x px) (e :: rest) [] pos) mu P := T_callT (T_blt g hb hx ⟨_, rfl, h⟩ hn hd) he hp

theorem parts_ok {f : Addr} {a b : Int} {P : AV → Led → Prop} (F : FnIs C.K f "parts" "parts" (stm prg 60)) (hb : 0 < b) (hz : b < 1000000) (h : P (.int ((a + b - 1) / b)) mu) : Code' C (n + 1) (.ref f) [.int a, .int b] mu P := by
  refine code_fn ["many", "size"] F rfl ?hb ?hk ?hn ?hc rfl rfl rfl ?body
  case hb => intro vs h pm cdv ct; obtain ⟨v, w, rfl⟩ := len2 h; rfl
  case hk => decide
  case hn => decide
  case hc => decide
  case body =>
    intro L cdv
    refine X_cons ?_
    refine X_ret ?_
    refine T_bin ?_
    refine T_bin ?_
    refine T_bin ?_
    refine T_name rfl ?_
    refine T_name rfl ?_
    refine O_add ?_
    refine T_int ?_
    refine O_sub ?_
    refine T_name rfl ?_
    refine O_fdiv hb hz ?_
    exact h
theorem clamped_ok {f : Addr} {a b : Int} {P : AV → Led → Prop} (F : FnIs C.K f "clamped" "clamped" (stm prg 2)) (h : P (.int (if a < 0 then 0 else if a > b then b else a)) mu) : Code' C (n + 1) (.ref f) [.int a, .int b] mu P := by
  refine code_fn ["number", "most"] F rfl ?hb ?hk ?hn ?hc rfl rfl rfl ?body
  case hb => intro vs h pm cdv ct; obtain ⟨v, w, rfl⟩ := len2 h; rfl
  case hk => decide
  case hn => decide
  case hc => decide
  case body =>
    intro L cdv
    refine X_cons ?_
    refine X_ret ?_
    refine T_ifexp ?_
    refine TB_cmp ?_
    refine T_name rfl ?_
    refine T_int ?_
    refine B_lt ?_
    split
    · rename_i c
      rw [if_pos (by simpa using c)] at h
      exact T_int h
    · rename_i c
      rw [if_neg (by simpa using c)] at h
      refine T_ifexp ?_
      refine TB_cmp ?_
      refine T_name rfl ?_
      refine T_name rfl ?_
      refine B_gt ?_
      split
      · rename_i c
        rw [if_pos (by simpa using c)] at h
        exact T_name rfl h
      · rename_i c
        rw [if_neg (by simpa using c)] at h
        exact T_name rfl h
end

/-! ### P2 -/
theorem isN {C : Cfg} {n : Nat} {env : Env} {m : Mp} {mu : Led} {x : Str} {p : Pos} {P : AV → Led → Prop} (h : T C n env m (.Name x p) mu P) : T C n env m (.Name x p) mu P := h
theorem isAttr {C : Cfg} {n : Nat} {env : Env} {m : Mp} {mu : Led} {e : Expr} {x : Str} {p : Pos} {P : AV → Led → Prop} (h : T C n env m (.Attribute e x p) mu P) : T C n env m (.Attribute e x p) mu P := h
theorem isCmp {C : Cfg} {n : Nat} {env : Env} {m : Mp} {mu : Led} {l r : Expr} {o : CmpOp} {p : Pos} {P : AV → Led → Prop} (h : T C n env m (.Compare l [o] [r] p) mu P) : T C n env m (.Compare l [o] [r] p) mu P := h
theorem isCmpB {C : Cfg} {n : Nat} {env : Env} {m : Mp} {mu : Led} {l r : Expr} {o : CmpOp} {p : Pos} {P : Bool → Led → Prop} (h : TB C n env m (.Compare l [o] [r] p) mu P) : TB C n env m (.Compare l [o] [r] p) mu P := h
theorem isTL {C : Cfg} {n : Nat} {env : Env} {m : Mp} {mu : Led} {e : Expr} {r : List Expr} {p : Pos} {P : List AV → Led → Prop} (h : TL C n env m p (e :: r) mu P) : TL C n env m p (e :: r) mu P := h
theorem isSubN {C : Cfg} {n : Nat} {env : Env} {m : Mp} {mu : Led} {e : Expr} {x : Str} {p q : Pos} {P : AV → Led → Prop} (h : T C n env m (.Subscript e (.Name x q) p) mu P) : T C n env m (.Subscript e (.Name x q) p) mu P := h
theorem isSubI {C : Cfg} {n : Nat} {env : Env} {m : Mp} {mu : Led} {e : Expr} {x : Const} {k : Nat} {p q : Pos} {P : AV → Led → Prop} (h : T C n env m (.Subscript e (.Constant x k q) p) mu P) : T C n env m (.Subscript e (.Constant x k q) p) mu P := h
theorem isSet {C : Cfg} {n : Nat} {env : Env} {m : Mp} {mu : Led} {x : Str} {px p : Pos} {e : Expr} {P : AFl → Mp → Led → Prop} (h : TX C n env m (exec (.Assign [.Name x px] e p) env) mu P) : TX C n env m (exec (.Assign [.Name x px] e p) env) mu P := h
theorem isSubC {C : Cfg} {n : Nat} {env : Env} {m : Mp} {mu : Led} {e f : Expr} {as : List Expr} {ks : List Keyword} {p q : Pos} {P : AV → Led → Prop} (h : T C n env m (.Subscript e (.Call f as ks q) p) mu P) : T C n env m (.Subscript e (.Call f as ks q) p) mu P := h
theorem isSubB {C : Cfg} {n : Nat} {env : Env} {m : Mp} {mu : Led} {e a b : Expr} {o : Operator} {p q : Pos} {P : AV → Led → Prop} (h : T C n env m (.Subscript e (.BinOp a o b q) p) mu P) : T C n env m (.Subscript e (.BinOp a o b q) p) mu P := h
local macro_rules | `(tactic| walk_at "mine wk") => `(tactic| repeat walk_at "mine w1")
local macro_rules | `(tactic| walk_at "mine le") => `(tactic| repeat (first | exact Le.nil | refine Le.cons rfl ?_))
local macro_rules | `(tactic| walk_at "mine w1") => `(tactic| first
  | (with_reducible refine X_cons ?_)
  | (with_reducible refine X_nil ?_)
  | (with_reducible refine X_ret ?_)
  | (with_reducible refine X_if ?_)
  | ((with_reducible refine isN ?_); refine T_name rfl ?_)
  | (with_reducible refine T_int ?_)
  | (with_reducible refine T_bin ?_)
  | (with_reducible refine T_un ?_)
  | (with_reducible refine T_none ?_)
  | (with_reducible refine T_str ?_)
  | ((with_reducible refine isCmp ?_); refine T_cmp ?_)
  | ((with_reducible refine isCmpB ?_); refine TB_cmp ?_)
  | (with_reducible refine T_ifexp ?_)
  | (with_reducible refine TL_nil ?_)
  | ((with_reducible refine isTL ?_); refine TL_cons ?_)
  | (with_reducible refine T_tuple ?_)
  | ((with_reducible refine isAttr ?_); refine T_attr ?_)
  | ((with_reducible refine isSubN ?_); refine T_sub ?_)
  | ((with_reducible refine isSubI ?_); refine T_sub ?_)
  | (with_reducible refine O_add ?_)
  | (with_reducible refine O_sub ?_)
  | (with_reducible refine O_neg ?_)
  | (with_reducible refine B_lt ?_)
  | (with_reducible refine B_gt ?_)
  | (with_reducible refine B_eq ?_)
  | ((with_reducible refine isSet ?_); first | refine X_set (.inl rfl) ?_ | refine X_set (.inr ⟨rfl, rfl⟩) ?_)
  | ((with_reducible refine isSubC ?_); refine T_sub ?_)
  | ((with_reducible refine isSubB ?_); refine T_sub ?_))

/-- a class that is called -/
structure ClsF (K : Frag) (nm : Str) (Cl : Addr) : Prop where
  ns : nsIn K mainGlobals nm = some (some (.ref Cl))
  kp : keepIn K (.ref Cl) = true
  mks : makesIn K Cl = true
noncomputable def IniF (K : Frag) (Cl : Addr) (qual : Str) (st : Stmt) : Prop := ∃ f, findIn K (.ref Cl) "__init__" = some (some (.ref f)) ∧ typeIn K (.ref f) = some (.type "function") ∧ FnIs K f "__init__" qual st
noncomputable def MF (K : Frag) (Cl : Addr) (nm qual : Str) (st : Stmt) : Prop := ∃ f, MethOf K Cl nm f ∧ FnIs K f nm qual st
structure FldF (K : Frag) (Cl : Addr) (nm : Str) : Prop where
  a : AttrOf K Cl nm
  s : SetOf K Cl nm
structure PlaneK (K : Frag) (Cp : Addr) : Prop where
  cls : ClsF K "Plane" Cp
  ini : IniF K Cp "Plane.__init__" (clsM prg 4 0)
  at_ : MF K Cp "at" "Plane.at" (clsM prg 4 1)
  width : FldF K Cp "width"
  height : FldF K Cp "height"
  rows : FldF K Cp "rows"
  kept : GF K "kept_in" (stm prg 5)

section
variable {C : Cfg} {n : Nat} {env : Env} {m : Mp} {mu : Led}
theorem T_callC {x : Str} {Cl : Addr} {px pos : Pos} {e : Expr} {rest : List Expr} {P : AV → Led → Prop} (g : ClsF C.K x Cl) (hx : env.kindOf x = some .globalImplicit)
    (h : TL C n env m pos (e :: rest) mu (KCall C n (.ref Cl) P))
    (hd : (x == ("__debug__" : Str)) = false := by decide) (he : starEach (e :: rest) env = (false, eval e env) :: starEach rest env := by rfl) (hp : (backTo pos (starEach rest env)).any (·.1) = false := by rfl) :
    T C n env m (.Call (.Name x px) (e :: rest) [] pos) mu P := T_callK (T_glob g.ns hx ⟨_, rfl, g.kp, h⟩ hd) he hp
theorem T_callC0 {x : Str} {Cl : Addr} {px pos : Pos} {P : AV → Led → Prop} (g : ClsF C.K x Cl) (hx : env.kindOf x = some .globalImplicit) (h : Call C n (.ref Cl) [] mu P)
    (hd : (x == ("__debug__" : Str)) = false := by decide) : T C n env m (.Call (.Name x px) [] [] pos) mu P := T_callK0 (T_glob g.ns hx ⟨_, rfl, g.kp, h⟩ hd)

theorem put_same {mu : Led} {a : Addr} {o o' : AO} : put (put mu a o) a o' = put mu a o' := by
  funext b; unfold put; split <;> rfl
theorem put_get {mu : Led} {a : Addr} {o : AO} : put mu a o a = some o := by unfold put; rw [if_pos rfl]
theorem put_ne {mu : Led} {a b : Addr} {o : AO} (h : b ≠ a) : put mu a o b = mu b := by unfold put; rw [if_neg h]
theorem del_put {mu : Led} {a : Addr} {o : AO} (h : mu a = none) : del (put mu a o) a = mu := by
  funext b; unfold del put; split
  · rename_i e; rw [e]; exact h.symm
  · rfl

noncomputable def keptI (p s : Int) : Int := if p < 0 then 0 else if p < s then p else s - 1
theorem kept_ok {f : Addr} {a b : Int} {P : AV → Led → Prop} (F : FnIs C.K f "kept_in" "kept_in" (stm prg 5)) (h : P (.int (keptI a b)) mu) : Code' C (n + 1) (.ref f) [.int a, .int b] mu P := by
  refine code_fn ["place", "size"] F rfl ?hb ?hk ?hn ?hc rfl rfl rfl ?body
  case hb => intro vs h pm cdv ct; obtain ⟨v, w, rfl⟩ := len2 h; rfl
  case hk => decide
  case hn => decide
  case hc => decide
  case body =>
    intro L cdv
    unfold keptI at h
    refine X_cons ?_
    walk_at "mine wk"
    split
    · rename_i c
      rw [if_pos (by simpa using c)] at h
      walk_at "mine wk"
      exact h
    · rename_i c
      rw [if_neg (by simpa using c)] at h
      walk_at "mine wk"
      split
      · rename_i c
        rw [if_pos (by simpa using c)] at h
        walk_at "mine wk"
        exact h
      · rename_i c
        rw [if_neg (by simpa using c)] at h
        walk_at "mine wk"
        exact h

theorem plane_init {f a d Cp : Addr} {x y z : AV} {P : AV → Led → Prop} (X : PlaneK C.K Cp) (F : FnIs C.K f "__init__" "Plane.__init__" (clsM prg 4 0)) (ea : mu a = some (.inst Cp d)) (ed : mu d = some (.dict [])) (hne : a ≠ d)
    (h : P (.val .none) (put mu d (.dict [("rows", z), ("height", y), ("width", x)]))) : Code' C (n + 1) (.ref f) [.val (.ref a), x, y, z] mu P := by
  refine code_fn ["self", "width", "height", "rows"] F rfl ?hb ?hk ?hn ?hc rfl rfl rfl ?body
  case hb => intro vs h pm cdv ct; obtain ⟨v, w, u, t, rfl⟩ := len4 h; rfl
  case hk => decide
  case hn => decide
  case hc => decide
  case body =>
    intro L cdv
    refine X_cons ?_
    refine X_assign ?_
    walk_at "mine wk"
    refine A_one (A_attr ?_)
    walk_at "mine wk"
    refine ⟨a, Cp, d, [], rfl, ea, ed, by decide, X.width.s, ?_⟩
    refine X_cons (X_assign ?_)
    walk_at "mine wk"
    refine A_one (A_attr ?_)
    walk_at "mine wk"
    refine ⟨a, Cp, d, _, rfl, (put_ne hne).trans ea, put_get, by simp, X.height.s, ?_⟩
    rw [put_same]
    refine X_cons (X_assign ?_)
    walk_at "mine wk"
    refine A_one (A_attr ?_)
    walk_at "mine wk"
    refine ⟨a, Cp, d, _, rfl, (put_ne hne).trans ea, put_get, by simp, X.rows.s, ?_⟩
    rw [put_same]
    walk_at "mine wk"
    exact h
noncomputable abbrev planeA (Cp : Addr) (x y z : AV) : AV := .inst Cp [("rows", z), ("height", y), ("width", x)]
theorem del2_put {mu : Led} {a d : Addr} {o o' : AO} (h1 : mu a = none) (h2 : mu d = none) (hne : a ≠ d) : del (del (put (put mu d o) a o') d) a = mu := by
  funext b; unfold del put
  by_cases e1 : b = a
  · subst e1; simp [h1]
  · by_cases e2 : b = d
    · subst e2; simp [h2]
    · simp [e1, e2]
theorem plane_ok {Cp : Addr} {x y z : AV} {P : AV → Led → Prop} (X : PlaneK C.K Cp) (h : P (planeA Cp x y z) mu) : Code' C (n + 2) (.ref Cp) [x, y, z] mu P := by
  obtain ⟨f, i1, i2, F⟩ := X.ini
  refine code_clsF X.cls.mks i1 i2 fun a d h1 h2 hne => plane_init X F put_get ((put_ne hne.symm).trans put_get) hne ⟨rfl, ?_, _, put_get, ?_⟩
  · exact (put_ne hne).trans put_get
  · have : put (put (put mu d (.dict [])) a (.inst Cp d)) d (.dict [("rows", z), ("height", y), ("width", x)]) = put (put mu d (.dict [("rows", z), ("height", y), ("width", x)])) a (.inst Cp d) := by
      funext b; unfold put
      by_cases e1 : b = a
      · subst e1; simp [hne]
      · simp [e1]; split <;> rfl
    rw [this, del2_put h1 h2 hne]
    exact h
end

/-! ### P3 -/
theorem clOk_nil {env : Env} : clOk env [] = true := rfl
theorem clOk_cons {env : Env} {x : Str} {c : Addr} {cl : List (Str × Addr)} (h1 : env.cells.lookup x = some c) (h2 : env.kindOf x = some .cell) (r : clOk env cl = true) : clOk env ((x, c) :: cl) = true := by
  unfold clOk at r ⊢
  rw [List.all_cons, r]
  simp [h1, h2]
noncomputable abbrev HmOk (env : Env) (scope : Scope) (cl : List (Str × Addr)) (m m' : Mp) : Prop := ∀ p ∈ m', m.lookup p.1 = some p.2 ∧ cap env scope cl p.1 = true
theorem hm_nil {env : Env} {scope : Scope} {cl : List (Str × Addr)} {m : Mp} : HmOk env scope cl m [] := fun _ h => nomatch h
theorem hm_cons {env : Env} {scope : Scope} {cl : List (Str × Addr)} {m m' : Mp} {x : Str} {y : AV} (h1 : m.lookup x = some y) (h2 : cap env scope cl x = true) (r : HmOk env scope cl m m') : HmOk env scope cl m ((x, y) :: m') := fun p hp => by
  rcases List.mem_cons.mp hp with rfl | hp
  · exact ⟨h1, h2⟩
  · exact r p hp
theorem tgt_l {env : Env} {scope : Scope} {cl : List (Str × Addr)} {x : Str} (h : ∀ L, (cEnv env scope cl L).kindOf x = some .local) : TgtOk env scope cl x := fun L => .inl (h L)
theorem tgt_c {env : Env} {scope : Scope} {cl : List (Str × Addr)} {x : Str} (h : ∀ L, (cEnv env scope cl L).kindOf x = some .cell) (h2 : ∀ L, ((cEnv env scope cl L).cells.lookup x).isSome = true) (h3 : cl.lookup x = none) : TgtOk env scope cl x := fun L => .inr ⟨h L, h2 L, h3⟩
section
variable {C : Cfg} {n : Nat} {env : Env} {m : Mp} {mu : Led}
theorem T_compA (m' : Mp) {scope : Scope} {cl : List (Str × Addr)} {x : Str} {px pos : Pos} {iter elt : Expr} {P : AV → Led → Prop} (hclos : closureFor scope env = pure cl)
    (h : T C n env m iter mu (CompK C n env scope cl x m' elt P))
    (hk : scope.kind = .function := by rfl) (hnames : ∀ y ∈ scope.names, y.2 = .local → scope.names.lookup y.1 = some .local := by decide)
    (hcl : clOk env cl = true := by repeat (first | exact clOk_nil | refine clOk_cons rfl rfl ?_)) (hm : HmOk env scope cl m m' := by repeat (first | exact hm_nil | refine hm_cons rfl rfl ?_))
    (hx : TgtOk env scope cl x := by first | exact tgt_l (fun _ => rfl) | exact tgt_c (fun _ => rfl) (fun _ => rfl) rfl)
    (hs : ∀ x, foldedSetIterable iter env x = pure x := by intro _; rfl) :
    T C n env m (.ListComp elt [⟨.Name x px, iter, [], 0⟩] scope pos) mu P := T_comp hclos hk hnames hcl hm hx h hs
theorem X_compA (m' : Mp) {scope : Scope} {cl : List (Str × Addr)} {x w : Str} {px pw pos pos' : Pos} {iter elt : Expr} {P : AFl → Mp → Led → Prop} (hclos : closureFor scope env = pure cl)
    (h : T C n env m iter mu (CompK C n env scope cl x m' elt (KSet w m P)))
    (hw : env.kindOf w = some .local := by rfl) (hk : scope.kind = .function := by rfl) (hnames : ∀ y ∈ scope.names, y.2 = .local → scope.names.lookup y.1 = some .local := by decide)
    (hcl : clOk env cl = true := by repeat (first | exact clOk_nil | refine clOk_cons rfl rfl ?_)) (hm : HmOk env scope cl m m' := by repeat (first | exact hm_nil | refine hm_cons rfl rfl ?_))
    (hx : TgtOk env scope cl x := by first | exact tgt_l (fun _ => rfl) | exact tgt_c (fun _ => rfl) (fun _ => rfl) rfl)
    (hsw : swapsWithSole [.Name w pw] (.ListComp elt [⟨.Name x px, iter, [], 0⟩] scope pos) pos'.line env = pure true := by rfl)
    (hs : ∀ x, foldedSetIterable iter env x = pure x := by intro _; rfl) :
    TX C n env m (exec (.Assign [.Name w pw] (.ListComp elt [⟨.Name x px, iter, [], 0⟩] scope pos) pos') env) mu P := X_setComp hw hclos hk hnames hcl hm hx h hsw hs
end

/-- R has h rows of w numbers -/
structure Wf (R : List (List Int)) (w h : Nat) : Prop where
  rows : R.length = h
  cols : ∀ r ∈ R, r.length = w
  w0 : 0 < w
  h0 : 0 < h
  wz : w ≤ 100
  hz : h ≤ 100
noncomputable def cellAt (R : List (List Int)) (y x : Int) : Int := (R.getD y.toNat []).getD x.toNat 0
theorem rows_get {R : List (List Int)} {k : Nat} {y : AV} (h : (R.map rowAV)[k]? = some y) : y = rowAV (R.getD k []) := by
  rw [List.getElem?_map] at h
  cases e : R[k]? with
  | none => rw [e] at h; cases h
  | some r => rw [e] at h; cases h; simp [List.getD, e]
theorem ints_get {r : List Int} {k : Nat} {y : AV} (h : (r.map AV.int)[k]? = some y) : y = .int (r.getD k 0) := by
  rw [List.getElem?_map] at h
  cases e : r[k]? with
  | none => rw [e] at h; cases h
  | some r => rw [e] at h; cases h; simp [List.getD, e]
theorem Wf.row {R : List (List Int)} {w h k : Nat} (W : Wf R w h) (hk : k < h) : (R.getD k []).length = w := by
  have hk' : k < R.length := by rw [W.rows]; exact hk
  rw [show R.getD k [] = R[k] by simp [List.getD, List.getElem?_eq_getElem hk']]
  exact W.cols _ (List.getElem_mem hk')
theorem keptI_in {p : Int} {s : Nat} (h : 0 < s) : 0 ≤ keptI p s ∧ keptI p s < s := by unfold keptI; split <;> (try split) <;> omega

section
variable {C : Cfg} {n : Nat} {env : Env} {m : Mp} {mu : Led}
theorem O_fld {Cl : Addr} {fs : List (Str × AV)} {nm : Str} {y : AV} {b : Bool} {P : AV → Led → Prop} (X : AttrOf C.K Cl nm) (e : fs.lookup nm = some y) (h : P y mu) (hp : plainAV y = true := by rfl) :
    Op1 C n At (fun o => getAttr o nm b) (.inst Cl fs) mu P := O_attr X e hp h
theorem plain_row {r : List Int} : plainAV (rowAV r) = true := rfl
theorem at_ok {f Cp : Addr} {R : List (List Int)} {w h : Nat} {x y : Int} {P : AV → Led → Prop} (X : PlaneK C.K Cp) (W : Wf R w h) (F : FnIs C.K f "at" "Plane.at" (clsM prg 4 1))
    (hP : P (.int (cellAt R (keptI y h) (keptI x w))) mu) : Code' C (n + 2) (.ref f) [planeA Cp (.int w) (.int h) (rowsAV R), .int x, .int y] mu P := by
  have ky := keptI_in (p := y) W.h0
  have kx := keptI_in (p := x) W.w0
  have hz := W.hz
  have wz := W.wz
  refine code_fn ["self", "x", "y"] F rfl ?hb ?hk ?hn ?hc rfl rfl rfl ?body
  case hb => intro vs h pm cdv ct; obtain ⟨v, w, u, rfl⟩ := len3 h; rfl
  case hk => decide
  case hn => decide
  case hc => decide
  case body =>
    intro L cdv
    refine X_cons ?_
    walk_at "mine wk"
    refine O_fld X.rows.a rfl ?_
    refine T_callG X.kept rfl fun f F => ?_
    walk_at "mine wk"
    refine O_fld X.height.a rfl ?_
    walk_at "mine wk"
    refine (kept_ok F ?_).call
    refine O_item ky.1 (by rw [List.length_map, W.rows]; exact ky.2) (by rw [List.length_map, W.rows]; omega) fun y' e => ?_
    rw [rows_get e]
    have hr := W.row (k := (keptI y h).toNat) (by omega)
    refine T_callG X.kept rfl fun f F => ?_
    walk_at "mine wk"
    refine O_fld X.width.a rfl ?_
    walk_at "mine wk"
    refine (kept_ok F ?_).call
    refine O_item kx.1 (by rw [List.length_map, hr]; exact kx.2) (by rw [List.length_map, hr]; omega) fun y' e => ?_
    rw [ints_get e]
    exact hP
end

/-- the numbers of the block x, y of the side n -/
noncomputable def blockOf (R : List (List Int)) (w h : Nat) (x y n : Nat) : List Int :=
  ((List.range n).map fun i : Nat => (List.range n).map fun j : Nat => cellAt R (keptI ((y * n + i : Nat) : Int) h) (keptI ((x * n + j : Nat) : Int) w)).flatten
theorem flat_take {α : Type} (g : Nat → List α) (i : Nat) : ((List.range (i + 1)).map g).flatten = ((List.range i).map g).flatten ++ g i := by
  rw [List.range_succ, List.map_append, List.flatten_append]; simp
theorem range_snoc {α : Type} (g : Nat → α) (i : Nat) : (List.range (i + 1)).map g = (List.range i).map g ++ [g i] := by rw [List.range_succ, List.map_append]; rfl
theorem range_get {α : Type} {n i : Nat} {g : Nat → α} {y : α} (h : ((List.range n).map g)[i]? = some y) : i < n ∧ y = g i := by
  rw [List.getElem?_map] at h
  by_cases c : i < n
  · rw [List.getElem?_range c] at h; cases h; exact ⟨c, rfl⟩
  · rw [List.getElem?_eq_none (by simpa using c)] at h; cases h
section
variable {C : Cfg} {n : Nat} {env : Env} {m : Mp} {mu : Led}
structure BlockK (K : Frag) (Cp : Addr) : Prop where
  pl : PlaneK K Cp
  range : BF K "range"
  blk : GF K "block_of" (stm prg 1)
theorem flat_len (g : Nat → List Int) (k : Nat) (h : ∀ i, (g i).length = k) : ∀ i, (((List.range i).map g).flatten).length = i * k
  | 0 => by simp
  | i + 1 => by rw [flat_take, List.length_append, flat_len g k h i, h]; rw [Nat.succ_mul]
theorem block_ok {f Cp : Addr} {R : List (List Int)} {w h x y s : Nat} {P : AV → Led → Prop} (X : BlockK C.K Cp) (W : Wf R w h) (hx : x ≤ 100) (hy : y ≤ 100) (hs : s ≤ 8) (F : FnIs C.K f "block_of" "block_of" (stm prg 1))
    (hP : P (rowAV (blockOf R w h x y s)) mu) : Code' C (n + 3) (.ref f) [planeA Cp (.int w) (.int h) (rowsAV R), .int x, .int y, .int s, .int 0] mu P := by
  refine code_fn ["plane", "x", "y", "n", "centre"] F rfl ?hb ?hk ?hn ?hc rfl rfl rfl ?body
  case hb => intro vs h pm cdv ct; obtain ⟨v, w, u, t, s, rfl⟩ := len5 h; rfl
  case hk => decide
  case hn => decide
  case hc => decide
  case body =>
    intro L cdv
    have hxs : x * s ≤ 800 := Nat.le_trans (Nat.mul_le_mul hx hs) (by decide)
    have hys : y * s ≤ 800 := Nat.le_trans (Nat.mul_le_mul hy hs) (by decide)
    have hxi : ((x : Int) * (s : Int)) = ((x * s : Nat) : Int) := by simp
    have hyi : ((y : Int) * (s : Int)) = ((y * s : Nat) : Int) := by simp
    refine X_cons ?_
    refine X_set (.inl rfl) ?_
    refine T_listM (TL_nil ⟨by decide, fun a ha => ?_⟩)
    refine X_cons ?_
    let m0 : Mp := ([Str.ofString "plane", Str.ofString "x", Str.ofString "y", Str.ofString "n", Str.ofString "centre"].zip [planeA Cp (.int w) (.int h) (rowsAV R), .int x, .int y, .int s, .int 0])
    let row := fun i : Nat => (List.range s).map fun j : Nat => cellAt R (keptI ((y * s + i : Nat) : Int) h) (keptI ((x * s + j : Nat) : Int) w)
    refine X_for (.inr ⟨rfl, rfl⟩) ?_
    refine T_callTn X.range rfl rfl ?_
    walk_at "mine wk"
    refine O_mul (.inl ?_) ?_
    · omega
    walk_at "mine wk"
    refine O_mul (.inl ?_) ?_
    · omega
    walk_at "mine wk"
    refine F_range2 ?_
    rw [hyi]
    refine ⟨_, Iter.range2 (by omega) (by omega) (by omega), fun i m' mu' => m' = (Str.ofString "found", .val (.ref a)) :: m0 ∧ mu' = put mu a (.list ((((List.range i).map row).flatten).map .int)), ⟨rfl, rfl⟩, ?_, ?_⟩
    · rintro i m' mu' y' hi ⟨rfl, rfl⟩
      obtain ⟨hlt, rfl⟩ := range_get hi
      refine X_cons (X_expr ?_)
      refine T_extend ?_
      walk_at "mine wk"
      refine ⟨a, _, rfl, put_get, ?_⟩
      refine T_compA [(Str.ofString "plane", planeA Cp (.int w) (.int h) (rowsAV R)), (Str.ofString "row", .int ((y * s : Nat) + (i : Nat))), (Str.ofString "centre", .int 0)] rfl ?_
      refine T_callTn X.range rfl rfl ?_
      walk_at "mine wk"
      refine O_mul (.inl ?_) ?_
      · omega
      walk_at "mine wk"
      refine O_mul (.inl ?_) ?_
      · omega
      walk_at "mine wk"
      refine F_range2 ?_
      rw [hxi]
      refine ⟨_, Iter.range2 (by omega) (by omega) (by omega), by simp; omega, fun j acc mu' => acc = ((List.range j).map fun j : Nat => AV.int (cellAt R (keptI ((y * s + i : Nat) : Int) h) (keptI ((x * s + j : Nat) : Int) w))) ∧ mu' = put mu a (.list ((((List.range i).map row).flatten).map .int)), ⟨rfl, rfl⟩, ?_, ?_⟩
      · rintro L2 j acc mu' y' hj - ⟨rfl, rfl⟩
        obtain ⟨hjt, rfl⟩ := range_get hj
        walk_at "mine wk"
        obtain ⟨fa, M, F⟩ := X.pl.at_
        refine T_meth ?_
        walk_at "mine wk"
        refine ⟨_, _, fa, rfl, rfl, M, ?_⟩
        walk_at "mine wk"
        refine (at_ok X.pl W F ?_).call
        walk_at "mine wk"
        refine ⟨?_, rfl⟩
        rw [range_snoc, Int.sub_zero]
        simp
      · rintro acc mu' hacc ⟨rfl, rfl⟩
        refine ⟨_, _, rfl, put_get, ?_, rfl, ?_⟩
        · have := flat_len row s (fun i => by simp [row]) i
          have : i * s ≤ 64 := Nat.le_trans (Nat.mul_le_mul (Nat.le_of_lt (Nat.lt_of_lt_of_le hlt (by omega))) hs) (by decide : 8 * 8 ≤ 64)
          rw [List.length_map, flat_len row s (fun i => by simp [row]) i, List.length_map, List.length_range]
          simp only [List.length_map, List.length_range]
          omega
        walk_at "mine wk"
        refine ⟨rfl, _, (by repeat (first | exact Le.nil | refine Le.cons rfl ?_) : Le ((Str.ofString "found", .val (.ref a)) :: m0) _), rfl, ?_⟩
        rw [put_same, flat_take, List.map_append]
        have : (Int.toNat (((x * s : Nat) : Int) + s - (x * s : Nat))) = s := by omega
        simp only [List.length_map, List.length_range, this]
        simp [row]
        rfl
    · rintro m' mu' ⟨rfl, rfl⟩
      refine X_settle (x := Str.ofString "found") put_get rfl ?_
      rw [del_put ha]
      walk_at "mine wk"
      have : (Int.toNat (((y * s : Nat) : Int) + s - (y * s : Nat))) = s := by omega
      simp only [List.length_map, List.length_range, this]
      exact hP
end

/-! ### P4 -/
structure DctK (K : Frag) (Ct Co : Addr) : Prop where
  descaled : GF K "descaled" (stm prg 15)
  two : ClsF K "TwoDct" Ct
  two0 : findIn K (.ref Ct) "__init__" = some (some (.builtin "object.__init__"))
  twoF : MF K Ct "forward" "TwoDct.forward" (clsM prg 38 0)
  twoI : MF K Ct "inverse" "TwoDct.inverse" (clsM prg 38 1)
  twoS : MF K Ct "sums" "TwoDct.sums" (clsM prg 38 2)
  one : ClsF K "OneDct" Co
  one0 : findIn K (.ref Co) "__init__" = some (some (.builtin "object.__init__"))
  oneF : MF K Co "forward" "OneDct.forward" (clsM prg 39 0)
  oneI : MF K Co "inverse" "OneDct.inverse" (clsM prg 39 1)
  picked : GF K "picked" (stm prg 45)
  forward : GF K "forward" (stm prg 46)
  inverse : GF K "inverse" (stm prg 47)

noncomputable def sums4 (a b c d : Int) : List Int := [a + b + c + d, a - b + c - d, a + b - c - d, a - b - c + d]

section
variable {C : Cfg} {n : Nat} {env : Env} {m : Mp} {mu : Led}
theorem descaled_ok {f : Addr} {a : Int} {P : AV → Led → Prop} (F : FnIs C.K f "descaled" "descaled" (stm prg 15)) (h : P (.int ((a + 1) / 2)) mu) : Code' C (n + 1) (.ref f) [.int a, .int 1] mu P := by
  refine code_fn ["number", "bits"] F rfl ?hb ?hk ?hn ?hc rfl rfl rfl ?body
  case hb => intro vs h pm cdv ct; obtain ⟨v, w, rfl⟩ := len2 h; rfl
  case hk => decide
  case hn => decide
  case hc => decide
  case body =>
    intro L cdv
    refine X_cons ?_
    walk_at "mine wk"
    refine O_shl (by decide) (by decide) (by decide) ?_
    walk_at "mine wk"
    refine O_shr (by decide) ?_
    exact h
theorem sums_ok {f Ct : Addr} {a b c d : Int} {P : AV → Led → Prop} (F : FnIs C.K f "sums" "TwoDct.sums" (clsM prg 38 2)) (h : P (rowAV (sums4 a b c d)) mu) : Code' C (n + 1) (.ref f) [.inst Ct [], rowAV [a, b, c, d]] mu P := by
  refine code_fn ["self", "block"] F rfl ?hb ?hk ?hn ?hc rfl rfl rfl ?body
  case hb => intro vs h pm cdv ct; obtain ⟨v, w, rfl⟩ := len2 h; rfl
  case hk => decide
  case hn => decide
  case hc => decide
  case body =>
    intro L cdv
    refine X_cons (X_assign ?_)
    walk_at "mine wk"
    refine A_one (A_tuple [.int a, .int b, .int c, .int d] (.inl rfl) rfl rfl ?_)
    refine AL_cons (A_name (.inl rfl) ?_)
    refine AL_cons (A_name (.inl rfl) ?_)
    refine AL_cons (A_name (.inl rfl) ?_)
    refine AL_cons (A_name (.inl rfl) ?_)
    refine AL_nil ?_
    walk_at "mine wk"
    refine T_list ?_
    walk_at "mine wk"
    exact ⟨by simp, h⟩
theorem take_snoc {α β : Type} (l : List α) (g : α → β) (j : Nat) (y : α) (h : l[j]? = some y) : (l.take (j + 1)).map g = (l.take j).map g ++ [g y] := by
  rw [List.take_add_one, h]; simp
theorem twoF_ok {f Ct Co : Addr} {a b c d : Int} {P : AV → Led → Prop} (X : DctK C.K Ct Co) (F : FnIs C.K f "forward" "TwoDct.forward" (clsM prg 38 0)) (h : P (rowAV ((sums4 a b c d).map (· * 4))) mu) :
    Code' C (n + 2) (.ref f) [.inst Ct [], rowAV [a, b, c, d]] mu P := by
  refine code_fn ["self", "block"] F rfl ?hb ?hk ?hn ?hc rfl rfl rfl ?body
  case hb => intro vs h pm cdv ct; obtain ⟨v, w, rfl⟩ := len2 h; rfl
  case hk => decide
  case hn => decide
  case hc => decide
  case body =>
    intro L cdv
    refine X_cons (X_ret ?_)
    refine T_compA [] rfl ?_
    obtain ⟨fs, M, F⟩ := X.twoS
    refine T_meth ?_
    walk_at "mine wk"
    refine ⟨_, _, fs, rfl, rfl, M, ?_⟩
    walk_at "mine wk"
    refine (sums_ok F ?_).call
    refine ⟨_, Iter.list _, by simp [sums4], fun j acc mu' => acc = ((sums4 a b c d).take j).map (fun i => AV.int (i * 4)) ∧ mu' = mu, ⟨rfl, rfl⟩, ?_, ?_⟩
    · rintro L2 j acc mu' y hj - ⟨rfl, rfl⟩
      rw [List.getElem?_map] at hj
      cases e : (sums4 a b c d)[j]? with
      | none => rw [e] at hj; cases hj
      | some i =>
        rw [e] at hj; cases hj
        walk_at "mine wk"
        refine O_mul (.inr (by decide)) ?_
        exact ⟨(take_snoc _ _ _ _ e).symm, rfl⟩
    · rintro acc mu' hacc ⟨rfl, rfl⟩
      exact h
theorem twoI_ok {f Ct Co : Addr} {a b c d : Int} {P : AV → Led → Prop} (X : DctK C.K Ct Co) (F : FnIs C.K f "inverse" "TwoDct.inverse" (clsM prg 38 1)) (h : P (rowAV ((sums4 a b c d).map fun i => (i + 1) / 2)) mu) :
    Code' C (n + 2) (.ref f) [.inst Ct [], rowAV [a, b, c, d]] mu P := by
  refine code_fn ["self", "block"] F rfl ?hb ?hk ?hn ?hc rfl rfl rfl ?body
  case hb => intro vs h pm cdv ct; obtain ⟨v, w, rfl⟩ := len2 h; rfl
  case hk => decide
  case hn => decide
  case hc => decide
  case body =>
    intro L cdv
    refine X_cons (X_ret ?_)
    refine T_compA [] rfl ?_
    obtain ⟨fs, M, F⟩ := X.twoS
    refine T_meth ?_
    walk_at "mine wk"
    refine ⟨_, _, fs, rfl, rfl, M, ?_⟩
    walk_at "mine wk"
    refine (sums_ok F ?_).call
    refine ⟨_, Iter.list _, by simp [sums4], fun j acc mu' => acc = ((sums4 a b c d).take j).map (fun i => AV.int ((i + 1) / 2)) ∧ mu' = mu, ⟨rfl, rfl⟩, ?_, ?_⟩
    · rintro L2 j acc mu' y hj - ⟨rfl, rfl⟩
      rw [List.getElem?_map] at hj
      cases e : (sums4 a b c d)[j]? with
      | none => rw [e] at hj; cases hj
      | some i =>
        rw [e] at hj; cases hj
        refine T_callG X.descaled rfl fun f F => ?_
        walk_at "mine wk"
        refine (descaled_ok F ?_).call
        exact ⟨(take_snoc _ _ _ _ e).symm, rfl⟩
    · rintro acc mu' hacc ⟨rfl, rfl⟩
      exact h
theorem oneF_ok {f Co : Addr} {a : Int} {P : AV → Led → Prop} (F : FnIs C.K f "forward" "OneDct.forward" (clsM prg 39 0)) (h : P (rowAV [a * 8]) mu) : Code' C (n + 1) (.ref f) [.inst Co [], rowAV [a]] mu P := by
  refine code_fn ["self", "block"] F rfl ?hb ?hk ?hn ?hc rfl rfl rfl ?body
  case hb => intro vs h pm cdv ct; obtain ⟨v, w, rfl⟩ := len2 h; rfl
  case hk => decide
  case hn => decide
  case hc => decide
  case body =>
    intro L cdv
    refine X_cons (X_ret (T_list ?_))
    walk_at "mine wk"
    refine O_item (by decide) (by simp) (by simp) fun y e => ?_
    cases e
    walk_at "mine wk"
    refine O_mul (.inr (by decide)) ?_
    walk_at "mine wk"
    exact ⟨by simp, h⟩
theorem oneI_ok {f Co : Addr} {a : Int} {P : AV → Led → Prop} (F : FnIs C.K f "inverse" "OneDct.inverse" (clsM prg 39 1)) (h : P (rowAV [a]) mu) : Code' C (n + 1) (.ref f) [.inst Co [], rowAV [a]] mu P := by
  refine code_fn ["self", "block"] F rfl ?hb ?hk ?hn ?hc rfl rfl rfl ?body
  case hb => intro vs h pm cdv ct; obtain ⟨v, w, rfl⟩ := len2 h; rfl
  case hk => decide
  case hn => decide
  case hc => decide
  case body =>
    intro L cdv
    refine X_cons (X_ret (T_list ?_))
    walk_at "mine wk"
    refine O_item (by decide) (by simp) (by simp) fun y e => ?_
    cases e
    walk_at "mine wk"
    exact ⟨by simp, h⟩
theorem picked2_ok {f Ct Co : Addr} {P : AV → Led → Prop} (X : DctK C.K Ct Co) (F : FnIs C.K f "picked" "picked" (stm prg 45)) (h : P (.inst Ct []) mu) : Code' C (n + 2) (.ref f) [.int 2] mu P := by
  refine code_fn ["n"] F rfl ?hb ?hk ?hn ?hc rfl rfl rfl ?body
  case hb => intro vs h pm cdv ct; obtain ⟨v, rfl⟩ := len1 h; rfl
  case hk => decide
  case hn => decide
  case hc => decide
  case body =>
    intro L cdv
    refine X_cons ?_
    walk_at "mine wk"
    rw [if_neg (by decide)]
    walk_at "mine wk"
    rw [if_neg (by decide)]
    walk_at "mine wk"
    rw [if_pos (by decide)]
    walk_at "mine wk"
    refine T_callC0 X.two rfl ?_
    exact (code_cls0 X.two.mks X.two0 h).call
theorem picked1_ok {f Ct Co : Addr} {P : AV → Led → Prop} (X : DctK C.K Ct Co) (F : FnIs C.K f "picked" "picked" (stm prg 45)) (h : P (.inst Co []) mu) : Code' C (n + 2) (.ref f) [.int 1] mu P := by
  refine code_fn ["n"] F rfl ?hb ?hk ?hn ?hc rfl rfl rfl ?body
  case hb => intro vs h pm cdv ct; obtain ⟨v, rfl⟩ := len1 h; rfl
  case hk => decide
  case hn => decide
  case hc => decide
  case body =>
    intro L cdv
    refine X_cons ?_
    walk_at "mine wk"
    rw [if_neg (by decide)]
    walk_at "mine wk"
    rw [if_neg (by decide)]
    walk_at "mine wk"
    rw [if_neg (by decide)]
    walk_at "mine wk"
    rw [if_pos (by decide)]
    walk_at "mine wk"
    refine T_callC0 X.one rfl ?_
    exact (code_cls0 X.one.mks X.one0 h).call

/-- the block of coefficients that a block of the side n has -/
noncomputable def fwd : Nat → List Int → List Int
  | 2, [a, b, c, d] => (sums4 a b c d).map (· * 4)
  | 1, [a] => [a * 8]
  | _, _ => []
noncomputable def inv : Nat → List Int → List Int
  | 2, [a, b, c, d] => (sums4 a b c d).map fun i => (i + 1) / 2
  | 1, [a] => [a]
  | _, _ => []
noncomputable def Side (s : Nat) : Prop := s = 2 ∨ s = 1
theorem forward_ok {f Ct Co : Addr} {s : Nat} {r : List Int} {P : AV → Led → Prop} (X : DctK C.K Ct Co) (hs : Side s) (hr : r.length = s * s) (F : FnIs C.K f "forward" "forward" (stm prg 46)) (h : P (rowAV (fwd s r)) mu) :
    Code' C (n + 4) (.ref f) [rowAV r, .int s] mu P := by
  refine code_fn ["block", "n"] F rfl ?hb ?hk ?hn ?hc rfl rfl rfl ?body
  case hb => intro vs h pm cdv ct; obtain ⟨v, w, rfl⟩ := len2 h; rfl
  case hk => decide
  case hn => decide
  case hc => decide
  case body =>
    intro L cdv
    refine X_cons (X_ret (T_meth ?_))
    refine T_callG X.picked rfl fun f F => ?_
    walk_at "mine wk"
    rcases hs with rfl | rfl
    · obtain ⟨a, b, c, d, rfl⟩ := len4 hr
      refine (picked2_ok X F ?_).call
      obtain ⟨fs, M, F⟩ := X.twoF
      refine ⟨_, _, fs, rfl, rfl, M, ?_⟩
      walk_at "mine wk"
      exact (twoF_ok X F h).call
    · obtain ⟨a, rfl⟩ := len1 hr
      refine (picked1_ok X F ?_).call
      obtain ⟨fs, M, F⟩ := X.oneF
      refine ⟨_, _, fs, rfl, rfl, M, ?_⟩
      walk_at "mine wk"
      exact (oneF_ok F h).call
theorem inverse_ok {f Ct Co : Addr} {s : Nat} {r : List Int} {P : AV → Led → Prop} (X : DctK C.K Ct Co) (hs : Side s) (hr : r.length = s * s) (F : FnIs C.K f "inverse" "inverse" (stm prg 47)) (h : P (rowAV (inv s r)) mu) :
    Code' C (n + 4) (.ref f) [rowAV r, .int s] mu P := by
  refine code_fn ["block", "n"] F rfl ?hb ?hk ?hn ?hc rfl rfl rfl ?body
  case hb => intro vs h pm cdv ct; obtain ⟨v, w, rfl⟩ := len2 h; rfl
  case hk => decide
  case hn => decide
  case hc => decide
  case body =>
    intro L cdv
    refine X_cons (X_ret (T_meth ?_))
    refine T_callG X.picked rfl fun f F => ?_
    walk_at "mine wk"
    rcases hs with rfl | rfl
    · obtain ⟨a, b, c, d, rfl⟩ := len4 hr
      refine (picked2_ok X F ?_).call
      obtain ⟨fs, M, F⟩ := X.twoI
      refine ⟨_, _, fs, rfl, rfl, M, ?_⟩
      walk_at "mine wk"
      exact (twoI_ok X F h).call
    · obtain ⟨a, rfl⟩ := len1 hr
      refine (picked1_ok X F ?_).call
      obtain ⟨fs, M, F⟩ := X.oneI
      refine ⟨_, _, fs, rfl, rfl, M, ?_⟩
      walk_at "mine wk"
      exact (oneI_ok F h).call
end

/-! ### P5 -/

structure BltK (K : Frag) : Prop where
  range : BF K "range"
  max : BF K "max"
  min : BF K "min"
  len : BF K "len"
  abs : BF K "abs"
  tuple : BF K "tuple"
  list : BF K "list"
  int : BF K "int"
structure ZigK (K : Frag) : Prop where
  b : BltK K
  zz : GF K "zigzag_places" (stm prg 49)
  order : GF K "order" (stm prg 51)
  to_row : GF K "to_row" (stm prg 52)
  to_block : GF K "to_block" (stm prg 53)
  quantise : GF K "quantise" (stm prg 7)
  dequantise : GF K "dequantise" (stm prg 8)

/-- the rows of the slanted line t, as they are walked -/
noncomputable def zz : Nat → Nat → List Int
  | 2, 0 => [0]
  | 2, 1 => [0, 1]
  | 2, 2 => [1]
  | 1, 0 => [0]
  | _, _ => []
noncomputable def zzNum (s t : Nat) : List Int := (zz s t).map fun y => y * (s : Int) + (t : Int) - y
noncomputable def zig (s : Nat) : List Int := (List.range (s * s)).map fun i : Nat => (i : Int)
theorem zz_all {s : Nat} (hs : Side s) : ((List.range (2 * s - 1)).map (zzNum s)).flatten = zig s := by
  rcases hs with rfl | rfl <;> decide
theorem zz_iter {s i : Nat} (hs : Side s) (hi : i < 2 * s - 1) :
    if ((i : Int) % 2 == 1) = true then Iter (.range (max 0 ((i : Int) - s + 1)) (min (i : Int) ((s : Int) - 1) + 1) 1) ((zz s i).map .int)
      else Iter (.range (min (i : Int) ((s : Int) - 1)) (max 0 ((i : Int) - s + 1) - 1) (-1)) ((zz s i).map .int) := by
  rcases hs with rfl | rfl
  · match i, hi with
    | 0, _ => rw [if_neg (by decide)]; exact Iter.range 1 (by decide) (by decide)
    | 1, _ => rw [if_pos (by decide)]; exact Iter.range 2 (by decide) (by decide)
    | 2, _ => rw [if_neg (by decide)]; exact Iter.range 1 (by decide) (by decide)
    | n + 3, h => omega
  · match i, hi with
    | 0, _ => rw [if_neg (by decide)]; exact Iter.range 1 (by decide) (by decide)
    | n + 1, h => omega
theorem zz_len (s t : Nat) : (zz s t).length ≤ 2 := by
  unfold zz; split <;> simp
theorem zzf_len (s : Nat) : ∀ i, (((List.range i).map (zzNum s)).flatten).length ≤ 2 * i
  | 0 => by simp
  | i + 1 => by
    have := zzf_len s i
    have := zz_len s i
    rw [flat_take, List.length_append, show (zzNum s i).length = (zz s i).length by simp [zzNum]]; omega

section
variable {C : Cfg} {n : Nat} {env : Env} {m : Mp} {mu : Led}
theorem zz_ok {f : Addr} {s : Nat} {P : AV → Led → Prop} (X : ZigK C.K) (hs : Side s) (F : FnIs C.K f "zigzag_places" "zigzag_places" (stm prg 49)) (h : P (.tup ((zig s).map .int)) mu) : Code' C (n + 1) (.ref f) [.int s] mu P := by
  refine code_fn ["n"] F rfl ?hb ?hk ?hn ?hc rfl rfl rfl ?body
  case hb => intro vs h pm cdv ct; obtain ⟨v, rfl⟩ := len1 h; rfl
  case hk => decide
  case hn => decide
  case hc => decide
  case body =>
    intro L cdv
    have hs2 : s ≤ 2 := by rcases hs with rfl | rfl <;> decide
    have hs1 : 1 ≤ s := by rcases hs with rfl | rfl <;> decide
    refine X_cons ?_
    refine X_set (.inl rfl) ?_
    refine T_listM (TL_nil ⟨by decide, fun a ha => ?_⟩)
    refine X_cons ?_
    refine X_forW [(Str.ofString "found", .val (.ref a)), (Str.ofString "n", .int s)] (by walk_at "mine le") (.inl rfl) ?_
    refine T_callTn X.b.range rfl rfl ?_
    walk_at "mine wk"
    refine O_mul (.inl (by decide)) ?_
    walk_at "mine wk"
    refine F_range1 ?_
    refine ⟨_, Iter.range1 (by omega) (by omega), fun i mu' => mu' = put mu a (.list ((((List.range i).map (zzNum s)).flatten).map .int)), rfl, ?_, ?_⟩
    · rintro i mu' y' hi rfl
      obtain ⟨hlt, rfl⟩ := range_get hi
      have hlt : i < 2 * s - 1 := by omega
      have hit := zz_iter hs hlt
      have hl := zzf_len s i
      have hl2 := zz_len s i
      refine X_cons (X_set (.inl rfl) ?_)
      refine T_callBn X.b.max rfl rfl ?_
      walk_at "mine wk"
      refine F_max2 ?_
      refine X_cons (X_set (.inl rfl) ?_)
      refine T_callBn X.b.min rfl rfl ?_
      walk_at "mine wk"
      refine F_min2 ?_
      refine X_cons (X_set (.inl rfl) ?_)
      walk_at "mine wk"
      refine O_mod (by decide) ?_
      walk_at "mine wk"
      split
      all_goals
        rename_i c
        first | rw [if_pos c] at hit | rw [if_neg c] at hit
        refine T_callTn X.b.range rfl rfl ?_
        walk_at "mine wk"
        first | refine F_range2 ?_ | refine F_range3 (by decide) (by decide) ?_
        refine X_cons ?_
        refine X_forW ((Str.ofString "rows", _) :: [(Str.ofString "total", .int (i : Nat)), (Str.ofString "found", .val (.ref a)), (Str.ofString "n", .int s)]) (by walk_at "mine le") (.inl rfl) ?_
        refine T_name rfl ?_
        refine ⟨_, hit, fun j mu' => mu' = put mu a (.list (((((List.range i).map (zzNum s)).flatten) ++ ((zz s i).take j).map fun y => y * (s : Int) + (i : Int) - y).map .int)), ?_, ?_, ?_⟩
        · simp
        · rintro j mu' y' hj rfl
          rw [List.getElem?_map] at hj
          cases e : (zz s i)[j]? with
          | none => rw [e] at hj; cases hj
          | some y =>
            rw [e] at hj; cases hj
            refine X_cons (X_expr (T_append ?_))
            walk_at "mine wk"
            refine ⟨a, _, rfl, put_get, ?_⟩
            walk_at "mine wk"
            refine O_mul (.inr (by omega)) ?_
            walk_at "mine wk"
            refine ⟨_, put_get, ?_, rfl, ?_⟩
            · have : ((zz s i).take j).length ≤ 2 := by rw [List.length_take]; omega
              simp only [List.length_map, List.length_append]; omega
            walk_at "mine wk"
            refine ⟨rfl, by walk_at "mine le", ?_⟩
            show _ = _
            rw [put_same, take_snoc _ _ _ _ e]
            simp
        · rintro mu' rfl
          walk_at "mine wk"
          refine ⟨rfl, by walk_at "mine le", ?_⟩
          show _ = _
          rw [List.length_map, List.take_length, flat_take]
          rfl
    · rintro mu' rfl
      refine X_cons ?_
      refine X_settle (x := Str.ofString "found") put_get rfl ?_
      rw [del_put ha]
      refine X_ret ?_
      refine T_callTn X.b.tuple rfl rfl ?_
      walk_at "mine wk"
      have : Int.toNat ((2 : Int) * s - 1) = 2 * s - 1 := by omega
      rw [List.length_map, List.length_range, this, zz_all hs]
      refine F_tuple ?_ h
      have : s * s ≤ 4 := Nat.mul_le_mul hs2 hs2
      simp only [zig, List.length_map, List.length_range]; omega

theorem order_ok {f : Addr} {s : Nat} {P : AV → Led → Prop} (X : ZigK C.K) (hs : Side s) (F : FnIs C.K f "order" "order" (stm prg 51)) (h : P (.tup ((zig s).map .int)) mu) : Code' C (n + 2) (.ref f) [.int s] mu P := by
  refine code_fn ["n"] F rfl ?hb ?hk ?hn ?hc rfl rfl rfl ?body
  case hb => intro vs h pm cdv ct; obtain ⟨v, rfl⟩ := len1 h; rfl
  case hk => decide
  case hn => decide
  case hc => decide
  case body =>
    intro L cdv
    refine X_cons ?_
    walk_at "mine wk"
    have c : ((s : Int) == 8) = false := by rcases hs with rfl | rfl <;> decide
    rw [c, if_neg (by decide)]
    refine T_callG X.zz rfl fun f F => ?_
    walk_at "mine wk"
    exact (zz_ok X hs F h).call
theorem zig_get {s j : Nat} {y : AV} (h : ((zig s).map AV.int)[j]? = some y) : j < s * s ∧ y = .int (j : Nat) := by
  unfold zig at h
  rw [List.map_map] at h
  exact range_get (g := fun i : Nat => AV.int (i : Int)) h
theorem zig_len (s : Nat) : (zig s).length = s * s := by simp [zig]
theorem range_getD (r : List Int) : (List.range r.length).map (fun i => AV.int (r.getD i 0)) = r.map .int := by
  apply List.ext_getElem?
  intro i
  rw [List.getElem?_map, List.getElem?_map]
  by_cases c : i < r.length
  · rw [List.getElem?_range c]; simp [List.getD, c]
  · rw [List.getElem?_eq_none (by simpa using c), List.getElem?_eq_none (by simpa using c)]; rfl
theorem to_row_ok {f : Addr} {s : Nat} {r : List Int} {P : AV → Led → Prop} (X : ZigK C.K) (hs : Side s) (hr : r.length = s * s) (F : FnIs C.K f "to_row" "to_row" (stm prg 52)) (h : P (rowAV r) mu) : Code' C (n + 3) (.ref f) [rowAV r, .int s] mu P := by
  refine code_fn ["block", "n"] F rfl ?hb ?hk ?hn ?hc rfl rfl rfl ?body
  case hb => intro vs h pm cdv ct; obtain ⟨v, w, rfl⟩ := len2 h; rfl
  case hk => decide
  case hn => decide
  case hc => decide
  case body =>
    intro L cdv
    have hs2 : s ≤ 2 := by rcases hs with rfl | rfl <;> decide
    have h4 : s * s ≤ 4 := Nat.mul_le_mul hs2 hs2
    refine X_cons (X_ret ?_)
    refine T_compA [(Str.ofString "block", rowAV r)] rfl ?_
    refine T_callG X.order rfl fun f F => ?_
    walk_at "mine wk"
    refine (order_ok X hs F ?_).call
    refine ⟨_, Iter.tup _, by rw [List.length_map, zig_len]; omega, fun j acc mu' => acc = (List.range j).map (fun i => AV.int (r.getD i 0)) ∧ mu' = mu, ⟨rfl, rfl⟩, ?_, ?_⟩
    · rintro L2 j acc mu' y hj - ⟨rfl, rfl⟩
      obtain ⟨hl, rfl⟩ := zig_get hj
      walk_at "mine wk"
      refine O_item (by omega) (by rw [List.length_map]; omega) (by rw [List.length_map]; omega) fun y e => ?_
      rw [ints_get e]
      refine ⟨?_, rfl⟩
      rw [range_snoc]
      rfl
    · rintro acc mu' hacc ⟨rfl, rfl⟩
      rw [List.length_map, zig_len, ← hr, range_getD]
      exact h
theorem set_mid (r : List Int) (j N : Nat) (h : j < N) (hr : j < r.length) : ((r.take j ++ List.replicate (N - j) 0).map AV.int).set j (.int (r.getD j 0)) = (r.take (j + 1) ++ List.replicate (N - (j + 1)) 0).map AV.int := by
  rw [← List.map_set]
  congr 1
  have hl : (r.take j).length = j := by rw [List.length_take]; omega
  rw [List.set_append_right _ _ (by omega), hl, Nat.sub_self, show N - j = (N - (j + 1)) + 1 by omega, List.replicate_succ, List.set_cons_zero, List.take_add_one, List.append_assoc]
  congr 1
  rw [List.getElem?_eq_getElem hr]
  simp [List.getD, hr]
theorem to_block_ok {f : Addr} {s : Nat} {r : List Int} {P : AV → Led → Prop} (X : ZigK C.K) (hs : Side s) (hr : r.length = s * s) (F : FnIs C.K f "to_block" "to_block" (stm prg 53)) (h : P (rowAV r) mu) : Code' C (n + 3) (.ref f) [rowAV r, .int s] mu P := by
  refine code_fn ["row", "n"] F rfl ?hb ?hk ?hn ?hc rfl rfl rfl ?body
  case hb => intro vs h pm cdv ct; obtain ⟨v, w, rfl⟩ := len2 h; rfl
  case hk => decide
  case hn => decide
  case hc => decide
  case body =>
    intro L cdv
    have hs2 : s ≤ 2 := by rcases hs with rfl | rfl <;> decide
    have h4 : s * s ≤ 4 := Nat.mul_le_mul hs2 hs2
    refine X_cons (X_set (.inl rfl) ?_)
    walk_at "mine wk"
    refine T_list ?_
    walk_at "mine wk"
    refine ⟨by simp, ?_⟩
    walk_at "mine wk"
    refine O_mul (.inl (by omega)) ?_
    refine O_repM (by omega) (by have : ((s : Int) * s) = ((s * s : Nat) : Int) := by simp
                                 omega) fun a ha => ?_
    have e4 : Int.toNat ((s : Int) * s) = s * s := by have : ((s : Int) * s) = ((s * s : Nat) : Int) := by simp
                                                      omega
    rw [e4]
    refine X_cons (X_set (.inl rfl) ?_)
    walk_at "mine wk"
    refine X_for (.inl rfl) ?_
    refine T_callG X.order rfl fun f F => ?_
    walk_at "mine wk"
    refine (order_ok X hs F ?_).call
    refine ⟨_, Iter.tup _, fun j m' mu' => m' = [(Str.ofString "rank", .int (j : Nat)), (Str.ofString "found", .val (.ref a)), (Str.ofString "row", rowAV r), (Str.ofString "n", .int s)] ∧ mu' = put mu a (.list ((r.take j ++ List.replicate (s * s - j) 0).map .int)), ⟨rfl, by simp⟩, ?_, ?_⟩
    · rintro j m' mu' y hj ⟨rfl, rfl⟩
      obtain ⟨hl, rfl⟩ := zig_get hj
      refine X_cons (X_assign ?_)
      walk_at "mine wk"
      refine O_item (by omega) (by rw [List.length_map]; omega) (by rw [List.length_map]; omega) fun y e => ?_
      rw [ints_get e]
      refine A_one (A_item ?_)
      walk_at "mine wk"
      have hll : (((r.take j ++ List.replicate (s * s - j) 0).map AV.int)).length = s * s := by
        simp only [List.length_map, List.length_append, List.length_take, List.length_replicate]; omega
      refine ⟨a, _, _, rfl, rfl, put_get, by omega, by rw [hll]; omega, by rw [hll]; omega, ?_⟩
      refine X_cons (X_aug rfl (.inl rfl) ?_)
      walk_at "mine wk"
      refine O_iadd ?_
      walk_at "mine wk"
      refine ⟨rfl, _, by walk_at "mine le", rfl, ?_⟩
      rw [put_same, Int.toNat_natCast, set_mid r j (s * s) hl (by omega)]
    · rintro m' mu' ⟨rfl, rfl⟩
      refine X_cons ?_
      refine X_settle (x := Str.ofString "found") put_get rfl ?_
      rw [del_put ha]
      walk_at "mine wk"
      rw [List.length_map, zig_len, Nat.sub_self, List.replicate_zero, List.append_nil, List.take_of_length_le (by omega)]
      exact h
end

/-- the law's division, halves away from nought -/
noncomputable def quantI (d v : Int) : Int := if v < 0 then -((2 * (v.natAbs : Int) + d * 8) / (2 * (d * 8))) else (2 * (v.natAbs : Int) + d * 8) / (2 * (d * 8))
noncomputable def quant (ds r : List Int) : List Int := (List.range r.length).map fun i => quantI (ds.getD i 0) (r.getD i 0)
noncomputable def dequant (ds r : List Int) : List Int := (List.range r.length).map fun i => r.getD i 0 * ds.getD i 0
/-- divisors -/
noncomputable def DivOk (ds : List Int) (k : Nat) : Prop := ds.length = k ∧ ∀ d ∈ ds, 1 ≤ d ∧ d ≤ 40
theorem DivOk.get {ds : List Int} {k i : Nat} (D : DivOk ds k) (h : i < k) : 1 ≤ ds.getD i 0 ∧ ds.getD i 0 ≤ 40 := by
  have h' : i < ds.length := by rw [D.1]; exact h
  rw [show ds.getD i 0 = ds[i] by simp [List.getD, h']]
  exact D.2 _ (List.getElem_mem h')
section
variable {C : Cfg} {n : Nat} {env : Env} {m : Mp} {mu : Led}
theorem quantise_ok {f : Addr} {s : Nat} {r ds : List Int} {P : AV → Led → Prop} (X : ZigK C.K) (hs : Side s) (hr : r.length = s * s) (D : DivOk ds (s * s)) (F : FnIs C.K f "quantise" "quantise" (stm prg 7)) (h : P (rowAV (quant ds r)) mu) :
    Code' C (n + 1) (.ref f) [rowAV r, .tup (ds.map .int), .int 8] mu P := by
  refine code_fn ["row", "qtable", "scale"] F rfl ?hb ?hk ?hn ?hc rfl rfl rfl ?body
  case hb => intro vs h pm cdv ct; obtain ⟨v, w, u, rfl⟩ := len3 h; rfl
  case hk => decide
  case hn => decide
  case hc => decide
  case body =>
    intro L cdv
    have hs2 : s ≤ 2 := by rcases hs with rfl | rfl <;> decide
    have h4 : s * s ≤ 4 := Nat.mul_le_mul hs2 hs2
    refine X_cons ?_
    refine X_set (.inl rfl) ?_
    refine T_listM (TL_nil ⟨by decide, fun a ha => ?_⟩)
    refine X_cons ?_
    refine X_forW [(Str.ofString "found", .val (.ref a)), (Str.ofString "row", rowAV r), (Str.ofString "qtable", .tup (ds.map .int)), (Str.ofString "scale", .int 8)] (by walk_at "mine le") (.inl rfl) ?_
    refine T_callTn X.b.range rfl rfl ?_
    refine TL_cons (T_callBn X.b.len rfl rfl ?_)
    walk_at "mine wk"
    refine F_len (by rw [List.length_map]; omega) ?_
    walk_at "mine wk"
    refine F_range1 ?_
    rw [List.length_map]
    refine ⟨_, Iter.range1 (by omega) (by omega), fun i mu' => mu' = put mu a (.list ((List.range i).map fun i => .int (quantI (ds.getD i 0) (r.getD i 0)))), rfl, ?_, ?_⟩
    · rintro i mu' y' hi rfl
      obtain ⟨hlt, rfl⟩ := range_get hi
      have hlt : i < r.length := by omega
      have hd := D.get (i := i) (by omega)
      refine X_cons (X_set (.inl rfl) ?_)
      walk_at "mine wk"
      refine O_item (by omega) (by rw [List.length_map]; omega) (by rw [List.length_map]; omega) fun y e => ?_
      rw [ints_get e]
      refine X_cons (X_set (.inl rfl) ?_)
      walk_at "mine wk"
      refine O_item_tup (by omega) (by rw [List.length_map, D.1]; omega) (by rw [List.length_map, D.1]; omega) fun y e => ?_
      rw [ints_get e]
      walk_at "mine wk"
      refine O_mul (.inr (by decide)) ?_
      refine X_cons (X_set (.inl rfl) ?_)
      walk_at "mine wk"
      refine T_callBn X.b.abs rfl rfl ?_
      walk_at "mine wk"
      refine F_abs ?_
      refine O_mul (.inl (by decide)) ?_
      walk_at "mine wk"
      refine O_mul (.inl (by decide)) ?_
      rw [Int.toNat_natCast]
      refine O_fdiv (by omega) (by omega) ?_
      refine X_cons (X_expr (T_append ?_))
      walk_at "mine wk"
      refine ⟨a, _, rfl, put_get, ?_⟩
      have fin : ∀ z : Int, z = quantI (ds.getD i 0) (r.getD i 0) → put (put mu a (.list ((List.range i).map fun i => .int (quantI (ds.getD i 0) (r.getD i 0))))) a (.list ((List.range i).map (fun i => AV.int (quantI (ds.getD i 0) (r.getD i 0))) ++ [.int z])) = put mu a (.list ((List.range (i + 1)).map fun i => .int (quantI (ds.getD i 0) (r.getD i 0)))) := by
        rintro z rfl
        rw [put_same, range_snoc]
      walk_at "mine wk"
      unfold quantI at fin
      split
      · rename_i c
        rw [if_pos (by simpa using c)] at fin
        walk_at "mine wk"
        refine ⟨_, put_get, by simp; omega, rfl, ?_⟩
        walk_at "mine wk"
        exact ⟨rfl, by walk_at "mine le", fin _ rfl⟩
      · rename_i c
        rw [if_neg (by simpa using c)] at fin
        walk_at "mine wk"
        refine ⟨_, put_get, by simp; omega, rfl, ?_⟩
        walk_at "mine wk"
        exact ⟨rfl, by walk_at "mine le", fin _ rfl⟩
    · rintro mu' rfl
      refine X_cons ?_
      refine X_settle (x := Str.ofString "found") put_get rfl ?_
      rw [del_put ha]
      walk_at "mine wk"
      rw [List.length_map, List.length_range, Int.toNat_natCast]
      unfold quant at h
      rw [rowAV, List.map_map] at h
      exact h
theorem dequantise_ok {f : Addr} {s : Nat} {r ds : List Int} {P : AV → Led → Prop} (X : ZigK C.K) (hs : Side s) (hr : r.length = s * s) (D : DivOk ds (s * s)) (F : FnIs C.K f "dequantise" "dequantise" (stm prg 8)) (h : P (rowAV (dequant ds r)) mu) :
    Code' C (n + 1) (.ref f) [rowAV r, .tup (ds.map .int)] mu P := by
  refine code_fn ["row", "qtable"] F rfl ?hb ?hk ?hn ?hc rfl rfl rfl ?body
  case hb => intro vs h pm cdv ct; obtain ⟨v, w, rfl⟩ := len2 h; rfl
  case hk => decide
  case hn => decide
  case hc => decide
  case body =>
    intro L cdv
    have hs2 : s ≤ 2 := by rcases hs with rfl | rfl <;> decide
    have h4 : s * s ≤ 4 := Nat.mul_le_mul hs2 hs2
    refine X_cons (X_ret ?_)
    refine T_compA [(Str.ofString "row", rowAV r), (Str.ofString "qtable", .tup (ds.map .int))] rfl ?_
    refine T_callTn X.b.range rfl rfl ?_
    refine TL_cons (T_callBn X.b.len rfl rfl ?_)
    walk_at "mine wk"
    refine F_len (by rw [List.length_map]; omega) ?_
    walk_at "mine wk"
    refine F_range1 ?_
    rw [List.length_map]
    refine ⟨_, Iter.range1 (by omega) (by omega), by simp; omega, fun j acc mu' => acc = (List.range j).map (fun i => AV.int (r.getD i 0 * ds.getD i 0)) ∧ mu' = mu, ⟨rfl, rfl⟩, ?_, ?_⟩
    · rintro L2 i acc mu' y hj - ⟨rfl, rfl⟩
      obtain ⟨hlt, rfl⟩ := range_get hj
      have hlt : i < r.length := by omega
      have hd := D.get (i := i) (by omega)
      walk_at "mine wk"
      refine O_item (by omega) (by rw [List.length_map]; omega) (by rw [List.length_map]; omega) fun y e => ?_
      rw [ints_get e]
      walk_at "mine wk"
      refine O_item_tup (by omega) (by rw [List.length_map, D.1]; omega) (by rw [List.length_map, D.1]; omega) fun y e => ?_
      rw [ints_get e, Int.toNat_natCast]
      refine O_mul (.inr (by omega)) ?_
      refine ⟨?_, rfl⟩
      rw [range_snoc]
    · rintro acc mu' hacc ⟨rfl, rfl⟩
      rw [List.length_map, List.length_range, Int.toNat_natCast]
      unfold dequant at h
      rw [rowAV, List.map_map] at h
      exact h
end

/-! ### P6 -/
structure FrameK (K : Frag) (Cc Cf : Addr) : Prop where
  b : BltK K
  parts : GF K "parts" (stm prg 60)
  comp : ClsF K "Component" Cc
  compI : IniF K Cc "Component.__init__" (clsM prg 61 0)
  ident : FldF K Cc "ident"
  across : FldF K Cc "across"
  down : FldF K Cc "down"
  quant : FldF K Cc "quant"
  frame : ClsF K "Frame" Cf
  frameI : IniF K Cf "Frame.__init__" (clsM prg 62 0)
  kind : FldF K Cf "kind"
  precision : FldF K Cf "precision"
  height : FldF K Cf "height"
  width : FldF K Cf "width"
  components : FldF K Cf "components"
  n : FldF K Cf "n"
  most_across : MF K Cf "most_across" "Frame.most_across" (clsM prg 62 1)
  most_down : MF K Cf "most_down" "Frame.most_down" (clsM prg 62 2)
  mcus_across : MF K Cf "mcus_across" "Frame.mcus_across" (clsM prg 62 3)
  mcus_down : MF K Cf "mcus_down" "Frame.mcus_down" (clsM prg 62 4)
  plane_size : MF K Cf "plane_size" "Frame.plane_size" (clsM prg 62 5)
  blocks : MF K Cf "blocks" "Frame.blocks" (clsM prg 62 6)
  padded : MF K Cf "padded" "Frame.padded" (clsM prg 62 7)

noncomputable abbrev compA (Cc : Addr) : AV := .inst Cc [("quant", .int 0), ("down", .int 1), ("across", .int 1), ("ident", .int 1)]
noncomputable abbrev frameA (Cc Cf : Addr) (w h s : Nat) : AV := .inst Cf [("n", .int s), ("components", .list [compA Cc]), ("width", .int w), ("height", .int h), ("precision", .int 8), ("kind", .str "extended")]
/-- how many blocks -/
noncomputable def nb (w s : Nat) : Nat := (w + s - 1) / s
theorem nb_eq {w s : Nat} (h : 1 ≤ s) : ((w : Int) + s - 1) / s = (nb w s : Nat) := by
  unfold nb
  rw [show (w : Int) + s - 1 = ((w + s - 1 : Nat) : Int) by omega]
  exact (Int.natCast_ediv _ _).symm

section
variable {C : Cfg} {n : Nat} {env : Env} {m : Mp} {mu : Led}
/-- a class is called, its __init__ fills the own dict -/
theorem cls_ok {Cl : Addr} {fs : List (Str × AV)} {ys : List AV} {x qual : Str} {st : Stmt} {P : AV → Led → Prop} (X : ClsF C.K x Cl) (I : IniF C.K Cl qual st)
    (h : ∀ f a d mu', FnIs C.K f "__init__" qual st → mu' a = some (.inst Cl d) → mu' d = some (.dict []) → a ≠ d → ∀ P' : AV → Led → Prop, P' (.val .none) (put mu' d (.dict fs)) → Code' C n (.ref f) (.val (.ref a) :: ys) mu' P')
    (hP : P (.inst Cl fs) mu) : Code' C (n + 1) (.ref Cl) ys mu P := by
  obtain ⟨f, i1, i2, F⟩ := I
  refine code_clsF X.mks i1 i2 fun a d h1 h2 hne => h f a d _ F put_get ((put_ne hne.symm).trans put_get) hne _ ⟨rfl, ?_, _, put_get, ?_⟩
  · exact (put_ne hne).trans put_get
  · have : put (put (put mu d (.dict [])) a (.inst Cl d)) d (.dict fs) = put (put mu d (.dict fs)) a (.inst Cl d) := by
      funext b; unfold put
      by_cases e1 : b = a
      · subst e1; simp [hne]
      · simp [e1]; split <;> rfl
    rw [this, del2_put h1 h2 hne]
    exact hP

theorem comp_ok {Cc Cf : Addr} {P : AV → Led → Prop} (X : FrameK C.K Cc Cf) (h : P (compA Cc) mu) : Code' C (n + 2) (.ref Cc) [.int 1, .int 1, .int 1, .int 0] mu P := by
  refine cls_ok X.comp X.compI (fun f a d mu' F ea ed hne P' h => ?_) h
  refine code_fn ["self", "ident", "across", "down", "quant"] F rfl ?hb ?hk ?hn ?hc rfl rfl rfl ?body
  case hb => intro vs h pm cdv ct; obtain ⟨v, w, u, t, s, rfl⟩ := len5 h; rfl
  case hk => decide
  case hn => decide
  case hc => decide
  case body =>
    intro L cdv
    refine X_cons ?_
    refine X_assign ?_
    walk_at "mine wk"
    refine A_one (A_attr ?_)
    walk_at "mine wk"
    refine ⟨a, _, d, [], rfl, ea, ed, by decide, X.ident.s, ?_⟩
    refine X_cons (X_assign ?_)
    walk_at "mine wk"
    refine A_one (A_attr ?_)
    walk_at "mine wk"
    refine ⟨a, _, d, _, rfl, (put_ne hne).trans ea, put_get, by simp, X.across.s, ?_⟩
    rw [put_same]
    refine X_cons (X_assign ?_)
    walk_at "mine wk"
    refine A_one (A_attr ?_)
    walk_at "mine wk"
    refine ⟨a, _, d, _, rfl, (put_ne hne).trans ea, put_get, by simp, X.down.s, ?_⟩
    rw [put_same]
    refine X_cons (X_assign ?_)
    walk_at "mine wk"
    refine A_one (A_attr ?_)
    walk_at "mine wk"
    refine ⟨a, _, d, _, rfl, (put_ne hne).trans ea, put_get, by simp, X.quant.s, ?_⟩
    rw [put_same]
    walk_at "mine wk"
    exact h
theorem frame_ok {Cc Cf : Addr} {w hh s : Nat} {P : AV → Led → Prop} (X : FrameK C.K Cc Cf) (h : P (frameA Cc Cf w hh s) mu) : Code' C (n + 2) (.ref Cf) [.str "extended", .int 8, .int hh, .int w, .list [compA Cc], .int s] mu P := by
  refine cls_ok X.frame X.frameI (fun f a d mu' F ea ed hne P' h => ?_) h
  refine code_fn ["self", "kind", "precision", "height", "width", "components", "n"] F rfl ?hb ?hk ?hn ?hc rfl rfl rfl ?body
  case hb => intro vs h pm cdv ct; obtain ⟨v, w, u, t, s, r, q, rfl⟩ := len7 h; rfl
  case hk => decide
  case hn => decide
  case hc => decide
  case body =>
    intro L cdv
    refine X_cons ?_
    refine X_assign ?_
    walk_at "mine wk"
    refine A_one (A_attr ?_)
    walk_at "mine wk"
    refine ⟨a, _, d, [], rfl, ea, ed, by decide, X.kind.s, ?_⟩
    refine X_cons (X_assign ?_)
    walk_at "mine wk"
    refine A_one (A_attr ?_)
    walk_at "mine wk"
    refine ⟨a, _, d, _, rfl, (put_ne hne).trans ea, put_get, by simp, X.precision.s, ?_⟩
    rw [put_same]
    refine X_cons (X_assign ?_)
    walk_at "mine wk"
    refine A_one (A_attr ?_)
    walk_at "mine wk"
    refine ⟨a, _, d, _, rfl, (put_ne hne).trans ea, put_get, by simp, X.height.s, ?_⟩
    rw [put_same]
    refine X_cons (X_assign ?_)
    walk_at "mine wk"
    refine A_one (A_attr ?_)
    walk_at "mine wk"
    refine ⟨a, _, d, _, rfl, (put_ne hne).trans ea, put_get, by simp, X.width.s, ?_⟩
    rw [put_same]
    refine X_cons (X_assign ?_)
    walk_at "mine wk"
    refine A_one (A_attr ?_)
    walk_at "mine wk"
    refine ⟨a, _, d, _, rfl, (put_ne hne).trans ea, put_get, by simp, X.components.s, ?_⟩
    rw [put_same]
    refine X_cons (X_assign ?_)
    walk_at "mine wk"
    refine A_one (A_attr ?_)
    walk_at "mine wk"
    refine ⟨a, _, d, _, rfl, (put_ne hne).trans ea, put_get, by simp, X.n.s, ?_⟩
    rw [put_same]
    walk_at "mine wk"
    exact h

theorem most_across_ok {f Cc Cf : Addr} {w hh s : Nat} {P : AV → Led → Prop} (X : FrameK C.K Cc Cf) (F : FnIs C.K f "most_across" "Frame.most_across" (clsM prg 62 1)) (h : P (.int 1) mu) : Code' C (n + 1) (.ref f) [frameA Cc Cf w hh s] mu P := by
  refine code_fn ["self"] F rfl ?hb ?hk ?hn ?hc rfl rfl rfl ?body
  case hb => intro vs h pm cdv ct; obtain ⟨v, rfl⟩ := len1 h; rfl
  case hk => decide
  case hn => decide
  case hc => decide
  case body =>
    intro L cdv
    refine X_cons (X_ret ?_)
    refine T_callBn X.b.max rfl rfl ?_
    refine TL_cons (T_compA [] rfl ?_)
    walk_at "mine wk"
    refine O_fld X.components.a rfl ?_
    refine ⟨_, Iter.list _, by simp, fun j acc mu' => acc = List.replicate j (.int 1) ∧ mu' = mu, ⟨rfl, rfl⟩, ?_, ?_⟩
    · rintro L2 j acc mu' y hj - ⟨rfl, rfl⟩
      match j, hj with
      | 0, hj =>
        cases hj
        walk_at "mine wk"
        refine O_fld X.across.a rfl ?_
        exact ⟨rfl, rfl⟩
      | j + 1, hj => cases hj
    · rintro acc mu' hacc ⟨rfl, rfl⟩
      walk_at "mine wk"
      exact F_max1 h

theorem most_down_ok {f Cc Cf : Addr} {w hh s : Nat} {P : AV → Led → Prop} (X : FrameK C.K Cc Cf) (F : FnIs C.K f "most_down" "Frame.most_down" (clsM prg 62 2)) (h : P (.int 1) mu) : Code' C (n + 1) (.ref f) [frameA Cc Cf w hh s] mu P := by
  refine code_fn ["self"] F rfl ?hb ?hk ?hn ?hc rfl rfl rfl ?body
  case hb => intro vs h pm cdv ct; obtain ⟨v, rfl⟩ := len1 h; rfl
  case hk => decide
  case hn => decide
  case hc => decide
  case body =>
    intro L cdv
    refine X_cons (X_ret ?_)
    refine T_callBn X.b.max rfl rfl ?_
    refine TL_cons (T_compA [] rfl ?_)
    walk_at "mine wk"
    refine O_fld X.components.a rfl ?_
    refine ⟨_, Iter.list _, by simp, fun j acc mu' => acc = List.replicate j (.int 1) ∧ mu' = mu, ⟨rfl, rfl⟩, ?_, ?_⟩
    · rintro L2 j acc mu' y hj - ⟨rfl, rfl⟩
      match j, hj with
      | 0, hj =>
        cases hj
        walk_at "mine wk"
        refine O_fld X.down.a rfl ?_
        exact ⟨rfl, rfl⟩
      | j + 1, hj => cases hj
    · rintro acc mu' hacc ⟨rfl, rfl⟩
      walk_at "mine wk"
      exact F_max1 h

theorem mcus_across_ok {f Cc Cf : Addr} {w hh s : Nat} {P : AV → Led → Prop} (X : FrameK C.K Cc Cf) (hs : Side s) (F : FnIs C.K f "mcus_across" "Frame.mcus_across" (clsM prg 62 3)) (h : P (.int (nb w s : Nat)) mu) : Code' C (n + 2) (.ref f) [frameA Cc Cf w hh s] mu P := by
  refine code_fn ["self"] F rfl ?hb ?hk ?hn ?hc rfl rfl rfl ?body
  case hb => intro vs h pm cdv ct; obtain ⟨v, rfl⟩ := len1 h; rfl
  case hk => decide
  case hn => decide
  case hc => decide
  case body =>
    intro L cdv
    have hs2 : s ≤ 2 := by rcases hs with rfl | rfl <;> decide
    have hs1 : 1 ≤ s := by rcases hs with rfl | rfl <;> decide
    refine X_cons (X_ret ?_)
    refine T_callG X.parts rfl fun f F => ?_
    walk_at "mine wk"
    refine O_fld X.width.a rfl ?_
    walk_at "mine wk"
    refine O_fld X.n.a rfl ?_
    obtain ⟨fm, M, F2⟩ := X.most_across
    refine T_meth0 ?_
    walk_at "mine wk"
    refine ⟨_, _, fm, rfl, rfl, M, ?_⟩
    refine (most_across_ok X F2 ?_).call
    refine O_mul (.inr (by decide)) ?_
    walk_at "mine wk"
    refine (parts_ok F (by omega) (by omega) ?_).call
    rw [Int.mul_one, nb_eq hs1]
    exact h

theorem mcus_down_ok {f Cc Cf : Addr} {w hh s : Nat} {P : AV → Led → Prop} (X : FrameK C.K Cc Cf) (hs : Side s) (F : FnIs C.K f "mcus_down" "Frame.mcus_down" (clsM prg 62 4)) (h : P (.int (nb hh s : Nat)) mu) : Code' C (n + 2) (.ref f) [frameA Cc Cf w hh s] mu P := by
  refine code_fn ["self"] F rfl ?hb ?hk ?hn ?hc rfl rfl rfl ?body
  case hb => intro vs h pm cdv ct; obtain ⟨v, rfl⟩ := len1 h; rfl
  case hk => decide
  case hn => decide
  case hc => decide
  case body =>
    intro L cdv
    have hs2 : s ≤ 2 := by rcases hs with rfl | rfl <;> decide
    have hs1 : 1 ≤ s := by rcases hs with rfl | rfl <;> decide
    refine X_cons (X_ret ?_)
    refine T_callG X.parts rfl fun f F => ?_
    walk_at "mine wk"
    refine O_fld X.height.a rfl ?_
    walk_at "mine wk"
    refine O_fld X.n.a rfl ?_
    obtain ⟨fm, M, F2⟩ := X.most_down
    refine T_meth0 ?_
    walk_at "mine wk"
    refine ⟨_, _, fm, rfl, rfl, M, ?_⟩
    refine (most_down_ok X F2 ?_).call
    refine O_mul (.inr (by decide)) ?_
    walk_at "mine wk"
    refine (parts_ok F (by omega) (by omega) ?_).call
    rw [Int.mul_one, nb_eq hs1]
    exact h

theorem plane_size_ok {f Cc Cf : Addr} {w hh s : Nat} {P : AV → Led → Prop} (X : FrameK C.K Cc Cf) (F : FnIs C.K f "plane_size" "Frame.plane_size" (clsM prg 62 5)) (h : P (.tup [.int w, .int hh]) mu) : Code' C (n + 2) (.ref f) [frameA Cc Cf w hh s, .int 0] mu P := by
  refine code_fn ["self", "place"] F rfl ?hb ?hk ?hn ?hc rfl rfl rfl ?body
  case hb => intro vs h pm cdv ct; obtain ⟨v, w, rfl⟩ := len2 h; rfl
  case hk => decide
  case hn => decide
  case hc => decide
  case body =>
    intro L cdv
    refine X_cons (X_set (.inl rfl) ?_)
    walk_at "mine wk"
    refine O_fld X.components.a rfl ?_
    walk_at "mine wk"
    refine O_item (by decide) (by simp) (by simp) fun y e => ?_
    cases e
    refine X_cons (X_set (.inl rfl) ?_)
    refine T_callG X.parts rfl fun f F => ?_
    walk_at "mine wk"
    refine O_fld X.width.a rfl ?_
    walk_at "mine wk"
    refine O_fld X.across.a rfl ?_
    refine O_mul (.inr (by decide)) ?_
    obtain ⟨fm, M, F2⟩ := X.most_across
    refine TL_cons (T_meth0 ?_)
    walk_at "mine wk"
    refine ⟨_, _, fm, rfl, rfl, M, ?_⟩
    refine (most_across_ok X F2 ?_).call
    walk_at "mine wk"
    refine (parts_ok F (by decide) (by decide) ?_).call
    walk_at "mine wk"
    refine T_callG X.parts rfl fun f F => ?_
    walk_at "mine wk"
    refine O_fld X.height.a rfl ?_
    walk_at "mine wk"
    refine O_fld X.down.a rfl ?_
    refine O_mul (.inr (by decide)) ?_
    obtain ⟨fm, M, F2⟩ := X.most_down
    refine TL_cons (T_meth0 ?_)
    walk_at "mine wk"
    refine ⟨_, _, fm, rfl, rfl, M, ?_⟩
    refine (most_down_ok X F2 ?_).call
    walk_at "mine wk"
    refine (parts_ok F (by decide) (by decide) ?_).call
    walk_at "mine wk"
    refine ⟨by simp, ?_⟩
    rw [show ((w : Int) * 1 + 1 - 1) / 1 = w by omega, show ((hh : Int) * 1 + 1 - 1) / 1 = hh by omega]
    exact h
theorem blocks_ok {f Cc Cf : Addr} {w hh s : Nat} {P : AV → Led → Prop} (X : FrameK C.K Cc Cf) (hs : Side s) (F : FnIs C.K f "blocks" "Frame.blocks" (clsM prg 62 6)) (h : P (.tup [.int (nb w s : Nat), .int (nb hh s : Nat)]) mu) : Code' C (n + 3) (.ref f) [frameA Cc Cf w hh s, .int 0] mu P := by
  refine code_fn ["self", "place"] F rfl ?hb ?hk ?hn ?hc rfl rfl rfl ?body
  case hb => intro vs h pm cdv ct; obtain ⟨v, w, rfl⟩ := len2 h; rfl
  case hk => decide
  case hn => decide
  case hc => decide
  case body =>
    intro L cdv
    have hs2 : s ≤ 2 := by rcases hs with rfl | rfl <;> decide
    have hs1 : 1 ≤ s := by rcases hs with rfl | rfl <;> decide
    refine X_cons (X_assign ?_)
    obtain ⟨fm, M, F2⟩ := X.plane_size
    refine T_meth ?_
    walk_at "mine wk"
    refine ⟨_, _, fm, rfl, rfl, M, ?_⟩
    walk_at "mine wk"
    refine (plane_size_ok X F2 ?_).call
    refine A_one (A_tuple [.int w, .int hh] (.inr rfl) rfl rfl ?_)
    refine AL_cons (A_name (.inl rfl) ?_)
    refine AL_cons (A_name (.inl rfl) ?_)
    refine AL_nil ?_
    walk_at "mine wk"
    refine T_callG X.parts rfl fun f F => ?_
    walk_at "mine wk"
    refine O_fld X.n.a rfl ?_
    walk_at "mine wk"
    refine (parts_ok F (by omega) (by omega) ?_).call
    walk_at "mine wk"
    refine T_callG X.parts rfl fun f F => ?_
    walk_at "mine wk"
    refine O_fld X.n.a rfl ?_
    walk_at "mine wk"
    refine (parts_ok F (by omega) (by omega) ?_).call
    walk_at "mine wk"
    refine ⟨by simp, ?_⟩
    rw [nb_eq hs1, nb_eq hs1]
    exact h
theorem padded_ok {f Cc Cf : Addr} {w hh s : Nat} {P : AV → Led → Prop} (X : FrameK C.K Cc Cf) (hs : Side s) (F : FnIs C.K f "padded" "Frame.padded" (clsM prg 62 7)) (h : P (.tup [.int (nb w s : Nat), .int (nb hh s : Nat)]) mu) : Code' C (n + 3) (.ref f) [frameA Cc Cf w hh s, .int 0] mu P := by
  refine code_fn ["self", "place"] F rfl ?hb ?hk ?hn ?hc rfl rfl rfl ?body
  case hb => intro vs h pm cdv ct; obtain ⟨v, w, rfl⟩ := len2 h; rfl
  case hk => decide
  case hn => decide
  case hc => decide
  case body =>
    intro L cdv
    refine X_cons (X_set (.inl rfl) ?_)
    walk_at "mine wk"
    refine O_fld X.components.a rfl ?_
    walk_at "mine wk"
    refine O_item (by decide) (by simp) (by simp) fun y e => ?_
    cases e
    walk_at "mine wk"
    obtain ⟨fm, M, F2⟩ := X.mcus_across
    refine T_meth0 ?_
    walk_at "mine wk"
    refine ⟨_, _, fm, rfl, rfl, M, ?_⟩
    refine (mcus_across_ok X hs F2 ?_).call
    walk_at "mine wk"
    refine O_fld X.across.a rfl ?_
    refine O_mul (.inr (by decide)) ?_
    walk_at "mine wk"
    obtain ⟨fm, M, F2⟩ := X.mcus_down
    refine T_meth0 ?_
    walk_at "mine wk"
    refine ⟨_, _, fm, rfl, rfl, M, ?_⟩
    refine (mcus_down_ok X hs F2 ?_).call
    walk_at "mine wk"
    refine O_fld X.down.a rfl ?_
    refine O_mul (.inr (by decide)) ?_
    walk_at "mine wk"
    refine ⟨by simp, ?_⟩
    rw [Int.mul_one, Int.mul_one]
    exact h
end

/-! ### P7 -/
/-! ## rows that may change -/
noncomputable abbrev Ext (mu mu' : Led) : Prop := ∀ b o, mu b = some o → mu' b = some o
theorem Ext.put {mu : Led} {a : Addr} {o : AO} (h : mu a = none) : Ext mu (put mu a o) := fun b o' e => by
  rw [put_ne (fun z => by rw [z, h] at e; cases e)]; exact e
noncomputable def refs (as : List Addr) : List AV := as.map fun a => .val (.ref a)
theorem refs_len (as : List Addr) : (refs as).length = as.length := by simp [refs]
theorem refs_get {as : List Addr} {i : Nat} {y : AV} (h : (refs as)[i]? = some y) : ∃ a, as[i]? = some a ∧ y = .val (.ref a) := by
  unfold refs at h
  rw [List.getElem?_map] at h
  cases e : as[i]? with
  | none => rw [e] at h; cases h
  | some a => rw [e] at h; cases h; exact ⟨a, rfl, rfl⟩
structure RR (mu : Led) (as : List Addr) (R : Nat → Nat → AV) (h w : Nat) : Prop where
  len : as.length = h
  row : ∀ (y : Nat) (a : Addr), as[y]? = some a → mu a = some (.list ((List.range w).map (R y)))
  nd : as.Nodup
theorem RR.ext {mu mu' : Led} {as : List Addr} {R : Nat → Nat → AV} {h w : Nat} (x : RR mu as R h w) (k : Ext mu mu') : RR mu' as R h w := ⟨x.len, fun y a e => k _ _ (x.row y a e), x.nd⟩
theorem get_mem {α : Type} {l : List α} {i : Nat} {a : α} (h : l[i]? = some a) : a ∈ l := List.mem_of_getElem? h
theorem RR.mem {mu : Led} {as : List Addr} {R : Nat → Nat → AV} {h w : Nat} (x : RR mu as R h w) {a : Addr} (m : a ∈ as) : ∃ l, mu a = some (.list l) := by
  obtain ⟨i, hi, rfl⟩ := List.mem_iff_getElem.mp m
  exact ⟨_, x.row i _ (List.getElem?_eq_getElem hi)⟩
theorem RR.put {mu : Led} {as : List Addr} {R : Nat → Nat → AV} {h w : Nat} (x : RR mu as R h w) {b : Addr} {o : AO} (m : b ∉ as) : RR (put mu b o) as R h w :=
  ⟨x.len, fun y a e => by rw [put_ne (show a ≠ b by intro z; subst z; exact m (get_mem e))]; exact x.row y a e, x.nd⟩
theorem del_ne {mu : Led} {a b : Addr} (h : b ≠ a) : del mu a b = mu b := by unfold del; rw [if_neg h]
theorem RR.del {mu : Led} {as : List Addr} {R : Nat → Nat → AV} {h w : Nat} (x : RR mu as R h w) {b : Addr} (m : b ∉ as) : RR (del mu b) as R h w :=
  ⟨x.len, fun y a e => by rw [del_ne (show a ≠ b by intro z; subst z; exact m (get_mem e))]; exact x.row y a e, x.nd⟩
theorem RR.nil {mu : Led} {R : Nat → Nat → AV} {w : Nat} : RR mu [] R 0 w := ⟨rfl, fun y a e => by simp at e, List.nodup_nil⟩
theorem RR.snoc {mu : Led} {as : List Addr} {R : Nat → Nat → AV} {i w : Nat} (x : RR mu as R i w) {a : Addr} (h : mu a = none) : RR (Mine.put mu a (.list ((List.range w).map (R i)))) (as ++ [a]) R (i + 1) w := by
  have na : a ∉ as := fun m => by obtain ⟨l, e⟩ := x.mem m; rw [h] at e; cases e
  refine ⟨by rw [List.length_append, x.len]; rfl, fun y b e => ?_, ?_⟩
  · by_cases c : y < as.length
    · rw [List.getElem?_append_left c] at e
      exact (x.put na).row y b e
    · rw [List.getElem?_append_right (by omega)] at e
      have hy : y = i := by
        have := x.len
        have : y - as.length < 1 := (List.getElem?_eq_some_iff.mp e).1
        omega
      subst hy
      rw [x.len, Nat.sub_self] at e
      cases e
      exact put_get
  · exact List.nodup_append.mpr ⟨x.nd, (by simp), fun b hb c hc => by rw [List.mem_singleton.mp hc]; exact fun z => na (z ▸ hb)⟩
/-- one item changed -/
noncomputable def upd (R : Nat → Nat → AV) (y x : Nat) (v : AV) : Nat → Nat → AV := fun y' x' => if y' = y ∧ x' = x then v else R y' x'
theorem nodup_get {as : List Addr} (nd : as.Nodup) {i j : Nat} {a : Addr} (h1 : as[i]? = some a) (h2 : as[j]? = some a) : i = j := by
  obtain ⟨l1, e1⟩ := List.getElem?_eq_some_iff.mp h1
  obtain ⟨l2, e2⟩ := List.getElem?_eq_some_iff.mp h2
  have nd := List.pairwise_iff_getElem.mp nd
  rcases Nat.lt_trichotomy i j with c | c | c
  · exact absurd (e1.trans e2.symm) (nd i j l1 l2 c)
  · exact c
  · exact absurd (e2.trans e1.symm) (nd j i l2 l1 c)
theorem RR.change {mu : Led} {as : List Addr} {R R' : Nat → Nat → AV} {h w y : Nat} {a : Addr} {l : List AV} (x : RR mu as R h w) (e : as[y]? = some a) (hl : l = (List.range w).map (R' y)) (ho : ∀ y', y' ≠ y → R' y' = R y') : RR (Mine.put mu a (.list l)) as R' h w := by
  refine ⟨x.len, fun y' b e' => ?_, x.nd⟩
  by_cases c : y' = y
  · subst c
    rw [e] at e'; cases e'
    rw [put_get, hl]
  · rw [put_ne (show b ≠ a by intro z; subst z; exact c (nodup_get x.nd e' e)), ho y' c]
    exact x.row y' b e'
theorem set_range (g : Nat → AV) (w x : Nat) (v : AV) : ((List.range w).map g).set x v = (List.range w).map fun x' => if x' = x then v else g x' := by
  apply List.ext_getElem?
  intro i
  rw [List.getElem?_set, List.getElem?_map]
  by_cases c : i < w
  · rw [List.getElem?_range c, List.getElem?_map, List.getElem?_range c]
    by_cases d : x = i
    · subst d; simp [c]
    · simp [d, Ne.symm d]
  · rw [List.getElem?_map, List.getElem?_eq_none (by simpa using c)]
    split
    · rw [if_neg (by simp; omega)]; rfl
    · rfl
theorem RR.set {mu : Led} {as : List Addr} {R : Nat → Nat → AV} {h w y x : Nat} {a : Addr} {v : AV} (r : RR mu as R h w) (e : as[y]? = some a) : RR (Mine.put mu a (.list (((List.range w).map (R y)).set x v))) as (upd R y x v) h w := by
  refine r.change e ?_ ?_
  · rw [set_range]
    apply List.map_congr_left
    intro x' _
    simp [upd]
  · intro y' hy; funext x'; simp [upd, hy]
/-- several items changed -/
noncomputable def updR (R : Nat → Nat → AV) (y x k : Nat) (g : Nat → AV) : Nat → Nat → AV := fun y' x' => if y' = y ∧ x ≤ x' ∧ x' < x + k then g (x' - x) else R y' x'
theorem run_range (g f : Nat → AV) (w x k : Nat) (h : x + k ≤ w) : ((List.range w).map g).take x ++ (List.range k).map f ++ ((List.range w).map g).drop (x + k) = (List.range w).map fun x' => if x ≤ x' ∧ x' < x + k then f (x' - x) else g x' := by
  apply List.ext_getElem
  · simp; omega
  · intro i h1 h2
    simp only [List.length_map, List.length_range] at h2
    rw [List.getElem_map, List.getElem_range]
    by_cases c1 : i < x
    · rw [if_neg (by omega), List.getElem_append_left (by simp; omega), List.getElem_append_left (by simp; omega)]
      simp
    · by_cases c2 : i < x + k
      · rw [if_pos (by omega), List.getElem_append_left (by simp; omega), List.getElem_append_right (by simp; omega)]
        simp only [List.getElem_map, List.getElem_range, List.length_take, List.length_map, List.length_range]
        congr 1; omega
      · rw [if_neg (by omega), List.getElem_append_right (by simp; omega)]
        simp only [List.getElem_drop, List.getElem_map, List.getElem_range, List.length_append, List.length_take, List.length_map, List.length_range]
        congr 1; omega
theorem RR.run {mu : Led} {as : List Addr} {R : Nat → Nat → AV} {h w y x k : Nat} {a : Addr} {g : Nat → AV} (r : RR mu as R h w) (e : as[y]? = some a) (hk : x + k ≤ w) :
    RR (Mine.put mu a (.list (((List.range w).map (R y)).take x ++ (List.range k).map g ++ ((List.range w).map (R y)).drop (x + k)))) as (updR R y x k g) h w := by
  refine r.change e ?_ ?_
  · rw [run_range _ _ _ _ _ hk]
    apply List.map_congr_left
    intro x' _
    simp [updR]
  · intro y' hy; funext x'; simp [updR, hy]
theorem RR.congr {mu : Led} {as : List Addr} {R R' : Nat → Nat → AV} {h w : Nat} (r : RR mu as R h w) (k : ∀ y x, y < h → x < w → R y x = R' y x) : RR mu as R' h w := by
  refine ⟨r.len, fun y a e => ?_, r.nd⟩
  rw [r.row y a e]
  have hy : y < h := by rw [← r.len]; exact (List.getElem?_eq_some_iff.mp e).1
  congr 2
  apply List.map_congr_left
  intro x hx
  exact k y x hy (List.mem_range.mp hx)

/-- rows being made, each w times the item x -/
noncomputable def MkRows (mu : Led) (x : AV) (w i : Nat) (acc : List AV) (mu' : Led) : Prop := ∃ as, acc = refs as ∧ RR mu' as (fun _ _ => x) i w ∧ Ext mu mu' ∧ ∀ a ∈ as, mu a = none
theorem MkRows.zero {mu : Led} {x : AV} {w : Nat} : MkRows mu x w 0 [] mu := ⟨[], rfl, RR.nil, fun _ _ e => e, fun _ h => nomatch h⟩
theorem MkRows.step {mu mu' : Led} {x : AV} {w i : Nat} {acc : List AV} {a : Addr} (h : MkRows mu x w i acc mu') (ha : mu' a = none) : MkRows mu x w (i + 1) (acc ++ [.val (.ref a)]) (put mu' a (.list (List.replicate w x))) := by
  obtain ⟨as, rfl, r, k, f⟩ := h
  refine ⟨as ++ [a], by simp [refs], ?_, fun b o e => Ext.put ha b o (k b o e), fun b hb => ?_⟩
  · have := r.snoc ha
    rw [show List.replicate w x = (List.range w).map fun _ => x by rw [List.map_const']; simp]
    exact this
  · rcases List.mem_append.mp hb with hb | hb
    · exact f b hb
    · rw [List.mem_singleton.mp hb]
      cases q : mu a with
      | none => rfl
      | some o => rw [k a o q] at ha; cases ha

/-! ## the grid -/
structure GridK (K : Frag) (Cg : Addr) : Prop where
  grid : ClsF K "Grid" Cg
  gridI : IniF K Cg "Grid.__init__" (clsM prg 64 0)
  many : FldF K Cg "many"
  planes : FldF K Cg "planes"
  get : MF K Cg "get" "Grid.get" (clsM prg 64 1)
  put : MF K Cg "put" "Grid.put" (clsM prg 64 2)
noncomputable abbrev gridA (Cg p : Addr) (s : Nat) : AV := .inst Cg [("planes", .val (.ref p)), ("many", .int ((s : Int) * s))]
structure GridIs (mu : Led) (p : Addr) (as : List Addr) (R : Nat → Nat → AV) (h w : Nat) : Prop where
  pl : mu p = some (.list [.list (refs as)])
  r : RR mu as R h w
  ne : p ∉ as
theorem GridIs.ext {mu mu' : Led} {p : Addr} {as : List Addr} {R : Nat → Nat → AV} {h w : Nat} (x : GridIs mu p as R h w) (k : Ext mu mu') : GridIs mu' p as R h w := ⟨k _ _ x.pl, x.r.ext k, x.ne⟩
theorem nb_le {w s : Nat} (hs : Side s) (h : w ≤ 100) : nb w s ≤ 100 := by
  unfold nb
  rcases hs with rfl | rfl <;> omega

section
variable {C : Cfg} {n : Nat} {env : Env} {m : Mp} {mu : Led}
theorem grid_init {f a d Cc Cf Cg : Addr} {w hh s : Nat} {P : AV → Led → Prop} (X : FrameK C.K Cc Cf) (Y : GridK C.K Cg) (hs : Side s) (hw : w ≤ 100) (hhz : hh ≤ 100) (F : FnIs C.K f "__init__" "Grid.__init__" (clsM prg 64 0))
    (ea : mu a = some (.inst Cg d)) (ed : mu d = some (.dict [])) (hne : a ≠ d)
    (h : ∀ p as mu', mu' a = some (.inst Cg d) → mu' d = some (.dict [("planes", .val (.ref p)), ("many", .int ((s : Int) * s))]) → mu' p = some (.list [.list (refs as)]) → RR mu' as (fun _ _ => .val .none) (nb hh s) (nb w s) → p ∉ as → P (.val .none) mu') :
    Code' C (n + 4) (.ref f) [.val (.ref a), frameA Cc Cf w hh s] mu P := by
  refine code_fn ["self", "frame"] F rfl ?hb ?hk ?hn ?hc rfl rfl rfl ?body
  case hb => intro vs h pm cdv ct; obtain ⟨v, w, rfl⟩ := len2 h; rfl
  case hk => decide
  case hn => decide
  case hc => decide
  case body =>
    intro L cdv
    have hs2 : s ≤ 2 := by rcases hs with rfl | rfl <;> decide
    have hs1 : 1 ≤ s := by rcases hs with rfl | rfl <;> decide
    have hnx := nb_le hs hw
    have hny := nb_le hs hhz
    refine X_cons ?_
    refine X_assign ?_
    walk_at "mine wk"
    refine O_fld X.n.a rfl ?_
    walk_at "mine wk"
    refine O_fld X.n.a rfl ?_
    refine O_mul (.inl (by omega)) ?_
    refine A_one (A_attr ?_)
    walk_at "mine wk"
    refine ⟨a, _, d, [], rfl, ea, ed, by decide, Y.many.s, ?_⟩
    have ea1 : put mu d (.dict [("many", AV.int ((s : Int) * s))]) a = some (.inst Cg d) := (put_ne hne).trans ea
    refine X_cons (X_assign ?_)
    refine T_listM (TL_nil ⟨by decide, fun p hp => ?_⟩)
    have pa : a ≠ p := fun z => by rw [← z, ea1] at hp; cases hp
    have pd : d ≠ p := fun z => by rw [← z, put_get] at hp; cases hp
    refine A_one (A_attr ?_)
    walk_at "mine wk"
    refine ⟨a, _, d, _, rfl, (put_ne pa).trans ea1, (put_ne pd).trans put_get, by simp, Y.planes.s, ?_⟩
    refine X_cons ?_
    generalize hmu1 : put (put (put mu d (.dict [("many", AV.int ((s : Int) * s))])) p (.list [])) d _ = mu1
    have a1 : mu1 a = some (.inst Cg d) := by rw [← hmu1, put_ne hne, put_ne pa]; exact ea1
    have d1 : mu1 d = some (.dict [("planes", .val (.ref p)), ("many", .int ((s : Int) * s))]) := by rw [← hmu1, put_get]
    have p1 : mu1 p = some (.list []) := by rw [← hmu1, put_ne pd.symm, put_get]
    refine X_forW [(Str.ofString "self", .val (.ref a)), (Str.ofString "frame", frameA Cc Cf w hh s)] (by walk_at "mine le") (.inl rfl) ?_
    refine T_callTn X.b.range rfl rfl ?_
    refine TL_cons (T_callBn X.b.len rfl rfl ?_)
    walk_at "mine wk"
    refine O_fld X.components.a rfl ?_
    walk_at "mine wk"
    refine F_len (by simp) ?_
    walk_at "mine wk"
    refine F_range1 ?_
    refine ⟨_, Iter.range1 (by simp) (by simp), fun i mu' => if i = 0 then mu' = mu1 else mu' a = some (.inst Cg d) ∧ mu' d = some (.dict [("planes", .val (.ref p)), ("many", .int ((s : Int) * s))]) ∧ ∃ as, mu' p = some (.list [.list (refs as)]) ∧ RR mu' as (fun _ _ => .val .none) (nb hh s) (nb w s) ∧ p ∉ as, ?_, ?_, ?_⟩
    · show if 0 = 0 then _ else _
      rw [if_pos rfl]
    · rintro i mu' y' hi j
      obtain ⟨hlt, rfl⟩ := range_get hi
      have hi0 : i = 0 := by simp at hlt; exact hlt
      subst hi0
      rw [if_pos rfl] at j
      subst j
      refine X_cons (X_assign ?_)
      obtain ⟨fm, M, F2⟩ := X.padded
      refine T_meth ?_
      walk_at "mine wk"
      refine ⟨_, _, fm, rfl, rfl, M, ?_⟩
      walk_at "mine wk"
      refine (padded_ok X hs F2 ?_).call
      refine A_one (A_tuple [.int (nb w s : Nat), .int (nb hh s : Nat)] (.inr rfl) rfl rfl ?_)
      refine AL_cons (A_name (.inr ⟨rfl, rfl⟩) ?_)
      refine AL_cons (A_name (.inl rfl) ?_)
      refine AL_nil ?_
      refine X_cons (X_expr (T_append ?_))
      walk_at "mine wk"
      refine O_attrM Y.planes.a a1 d1 rfl rfl ?_
      refine ⟨p, _, rfl, p1, ?_⟩
      refine T_compA [(Str.ofString "across", .int (nb w s : Nat))] rfl ?_
      refine T_callTn X.b.range rfl rfl ?_
      walk_at "mine wk"
      refine F_range1 ?_
      refine ⟨_, Iter.range1 (by omega) (by omega), by simp; omega, fun j acc mu2 => MkRows mu' (.val .none) (nb w s) j acc mu2, MkRows.zero, ?_, ?_⟩
      · rintro L2 j acc mu2 y hj - J
        walk_at "mine wk"
        refine T_list ?_
        walk_at "mine wk"
        refine ⟨by simp, ?_⟩
        walk_at "mine wk"
        refine O_repM (by omega) (by omega) fun r hr => ?_
        rw [Int.toNat_natCast]
        exact J.step hr
      · rintro acc mu2 hacc ⟨as, rfl, r, k, fr⟩
        have pn : p ∉ as := fun z => by have := fr p z; rw [p1] at this; cases this
        have an : a ∉ as := fun z => by have := fr a z; rw [a1] at this; cases this
        have dn : d ∉ as := fun z => by have := fr d z; rw [d1] at this; cases this
        refine ⟨_, k _ _ p1, by simp, rfl, ?_⟩
        walk_at "mine wk"
        refine ⟨rfl, by walk_at "mine le", ?_⟩
        show if 0 + 1 = 0 then _ else _
        rw [if_neg (by decide)]
        simp only [List.length_map, List.length_range, Int.toNat_natCast] at r
        exact ⟨(put_ne pa).trans (k _ _ a1), (put_ne pd).trans (k _ _ d1), as, put_get, r.put pn, pn⟩
    · rintro mu' J
      rw [if_neg (by simp)] at J
      obtain ⟨j1, j2, as, j3, j4, j5⟩ := J
      walk_at "mine wk"
      exact h p as mu' j1 j2 j3 j4 j5
theorem grid_ok {Cc Cf Cg : Addr} {w hh s : Nat} {P : AV → Led → Prop} (X : FrameK C.K Cc Cf) (Y : GridK C.K Cg) (hs : Side s) (hw : w ≤ 100) (hhz : hh ≤ 100)
    (h : ∀ p as mu', GridIs mu' p as (fun _ _ => .val .none) (nb hh s) (nb w s) → P (gridA Cg p s) mu') : Code' C (n + 5) (.ref Cg) [frameA Cc Cf w hh s] mu P := by
  obtain ⟨f, i1, i2, F⟩ := Y.gridI
  refine code_clsF Y.grid.mks i1 i2 fun a d h1 h2 hne => grid_init X Y hs hw hhz F put_get ((put_ne hne.symm).trans put_get) hne fun p as mu' a1 d1 p1 r pn => ⟨rfl, a1, _, d1, h p as _ ⟨?_, ?_, pn⟩⟩
  · have : p ≠ a := fun z => by rw [z, a1] at p1; cases p1
    have : p ≠ d := fun z => by rw [z, d1] at p1; cases p1
    rw [del_ne (by assumption), del_ne (by assumption)]
    exact p1
  · have dn : d ∉ as := fun z => by obtain ⟨l, e⟩ := r.mem z; rw [d1] at e; cases e
    have an : a ∉ as := fun z => by obtain ⟨l, e⟩ := r.mem z; rw [a1] at e; cases e
    exact (r.del dn).del an
theorem get_ok {f Cg p : Addr} {as : List Addr} {R : Nat → Nat → AV} {hh w s x y : Nat} {r : List Int} {P : AV → Led → Prop} (Y : GridK C.K Cg) (G : GridIs mu p as R hh w) (hy : y < hh) (hx : x < w) (hhz : hh ≤ 100) (hwz : w ≤ 100) (e : R y x = rowAV r)
    (F : FnIs C.K f "get" "Grid.get" (clsM prg 64 1)) (h : P (rowAV r) mu) : Code' C (n + 1) (.ref f) [gridA Cg p s, .int 0, .int x, .int y] mu P := by
  refine code_fn ["self", "place", "x", "y"] F rfl ?hb ?hk ?hn ?hc rfl rfl rfl ?body
  case hb => intro vs h pm cdv ct; obtain ⟨v, w, u, t, rfl⟩ := len4 h; rfl
  case hk => decide
  case hn => decide
  case hc => decide
  case body =>
    intro L cdv
    have hl := G.r.len
    refine X_cons ?_
    refine X_set (.inl rfl) ?_
    walk_at "mine wk"
    refine O_fld Y.planes.a rfl ?_
    walk_at "mine wk"
    refine O_item_ref G.pl (by decide) (by simp) (by simp) fun z ez => ?_
    cases ez
    walk_at "mine wk"
    refine O_item (by omega) (by rw [refs_len]; omega) (by rw [refs_len]; omega) fun z ez => ?_
    obtain ⟨a, ea, rfl⟩ := refs_get ez
    walk_at "mine wk"
    refine O_item_ref (G.r.row _ a ea) (by omega) (by simp; omega) (by simp; omega) fun z ez => ?_
    rw [Int.toNat_natCast, Int.toNat_natCast] at ez
    obtain ⟨_, rfl⟩ := range_get ez
    rw [e]
    refine X_cons ?_
    walk_at "mine wk"
    refine B_isNone_list ?_
    rw [if_neg (by decide)]
    walk_at "mine wk"
    exact h
theorem gput_ok {f Cg p : Addr} {as : List Addr} {R : Nat → Nat → AV} {hh w s x y : Nat} {r : List Int} {P : AV → Led → Prop} (B : BltK C.K) (Y : GridK C.K Cg) (G : GridIs mu p as R hh w) (hy : y < hh) (hx : x < w) (hhz : hh ≤ 100) (hwz : w ≤ 100) (hr : r.length ≤ 100)
    (F : FnIs C.K f "put" "Grid.put" (clsM prg 64 2)) (h : ∀ mu', GridIs mu' p as (upd R y x (rowAV r)) hh w → P (.val .none) mu') : Code' C (n + 1) (.ref f) [gridA Cg p s, .int 0, .int x, .int y, rowAV r] mu P := by
  refine code_fn ["self", "place", "x", "y", "row"] F rfl ?hb ?hk ?hn ?hc rfl rfl rfl ?body
  case hb => intro vs h pm cdv ct; obtain ⟨v, w, u, t, s, rfl⟩ := len5 h; rfl
  case hk => decide
  case hn => decide
  case hc => decide
  case body =>
    intro L cdv
    have hl := G.r.len
    refine X_cons ?_
    refine X_assign ?_
    refine T_callTn B.list rfl rfl ?_
    walk_at "mine wk"
    refine F_list (by simp; omega) ?_
    refine A_one (A_item ?_)
    walk_at "mine wk"
    refine O_fld Y.planes.a rfl ?_
    walk_at "mine wk"
    refine O_item_ref G.pl (by decide) (by simp) (by simp) fun z ez => ?_
    cases ez
    walk_at "mine wk"
    refine O_item (by omega) (by rw [refs_len]; omega) (by rw [refs_len]; omega) fun z ez => ?_
    obtain ⟨a, ea, rfl⟩ := refs_get ez
    rw [Int.toNat_natCast] at ea
    walk_at "mine wk"
    refine ⟨a, x, _, rfl, rfl, G.r.row _ a ea, by omega, by simp; omega, by simp; omega, ?_⟩
    walk_at "mine wk"
    rw [Int.toNat_natCast]
    refine h _ ⟨?_, G.r.set ea, G.ne⟩
    rw [put_ne (show p ≠ a by intro z; subst z; exact G.ne (get_mem ea))]
    exact G.pl
end

/-! ### P8 -/
/-! ## rows of numbers -/
noncomputable def cN (R : List (List Int)) (y x : Nat) : Int := (R.getD y []).getD x 0
noncomputable def mk (w h : Nat) (f : Nat → Nat → Int) : List (List Int) := (List.range h).map fun y => (List.range w).map fun x => f y x
theorem mk_wf {w h : Nat} {f : Nat → Nat → Int} (w0 : 0 < w) (h0 : 0 < h) (wz : w ≤ 100) (hz : h ≤ 100) : Wf (mk w h f) w h := by
  refine ⟨by simp [mk], fun r hr => ?_, w0, h0, wz, hz⟩
  obtain ⟨y, _, rfl⟩ := List.mem_map.mp hr
  simp
theorem mk_row {w h k : Nat} {f : Nat → Nat → Int} (hk : k < h) : (mk w h f).getD k [] = (List.range w).map (f k) := by
  unfold mk
  rw [List.getD, List.getElem?_map, List.getElem?_range hk]; rfl
theorem mk_cN {w h y x : Nat} {f : Nat → Nat → Int} (hy : y < h) (hx : x < w) : cN (mk w h f) y x = f y x := by
  unfold cN
  rw [mk_row hy, List.getD, List.getElem?_map, List.getElem?_range hx]; rfl
theorem rowsAV_mk {w h : Nat} {f : Nat → Nat → Int} : rowsAV (mk w h f) = .list ((List.range h).map fun y => rowAV ((List.range w).map fun x => f y x)) := by
  unfold mk rowsAV
  rw [List.map_map]
  rfl
theorem row_mk {w : Nat} {f : Nat → Int} : rowAV ((List.range w).map f) = .list ((List.range w).map fun x => .int (f x)) := by
  rw [rowAV, List.map_map]; rfl

structure DiffK (K : Frag) (Cp Ct Co Cc Cf Cg : Addr) : Prop where
  p : PlaneK K Cp
  bk : BlockK K Cp
  d : DctK K Ct Co
  z : ZigK K
  f : FrameK K Cc Cf
  g : GridK K Cg
  clamped : GF K "clamped" (stm prg 2)
  difference : GF K "difference" (stm prg 55)
  added : GF K "added" (stm prg 56)
  putd : GF K "put_differences" (stm prg 57)
  told : GF K "told_differences" (stm prg 58)
  scale : ∃ t, nsIn K mainGlobals "SCALE" = some (some (.int 8 t))

section
variable {C : Cfg} {n : Nat} {env : Env} {m : Mp} {mu : Led}
theorem T_globI {x : Str} {pos : Pos} {i : Int} {P : AV → Led → Prop} (e : ∃ t, nsIn C.K mainGlobals x = some (some (.int i t))) (hx : env.kindOf x = some .globalImplicit) (h : P (.int i) mu) (hd : (x == ("__debug__" : Str)) = false := by decide) :
    T C n env m (.Name x pos) mu P := by
  intro A a G hh t g V Q q
  obtain ⟨u, e⟩ := e
  obtain ⟨mg, hg⟩ := g.cx.g
  exact Name_function_global V.ok.kind hx (loadGlobal_global (s := C.S hh t) (mg := mg) (V.ok.g ▸ hg.keeps g.sub) (mg_of g.cx.K hg e) (q _ _ _ _ hh t (.refl g) (.int _ _) h)) hd
theorem O_row {value slice : Expr} {R : List (List Int)} {w h k : Nat} {P : AV → Led → Prop} (W : Wf R w h) (hk : k < h) (hp : P (rowAV (R.getD k [])) mu)
    (hs : ∀ a u, subscripted slice false (.ref a) (.int k u) = operate [.ref a, .int k u] (getItem (.ref a) (.int k u)) := by intro _ _; with_unfolding_all rfl) :
    Op2 C n At (subscriptTail value slice) (rowsAV R) (.int k) mu P := by
  have := W.rows
  have := W.hz
  refine O_item (by omega) (by rw [List.length_map]; omega) (by rw [List.length_map]; omega) (fun y e => ?_) hs
  rw [rows_get e, Int.toNat_natCast]
  exact hp
theorem O_cell {value slice : Expr} {r : List Int} {k : Nat} {P : AV → Led → Prop} (hk : k < r.length) (hz : r.length ≤ 1000) (hp : P (.int (r.getD k 0)) mu)
    (hs : ∀ a u, subscripted slice false (.ref a) (.int k u) = operate [.ref a, .int k u] (getItem (.ref a) (.int k u)) := by intro _ _; with_unfolding_all rfl) :
    Op2 C n At (subscriptTail value slice) (rowAV r) (.int k) mu P := by
  refine O_item (by omega) (by rw [List.length_map]; omega) (by rw [List.length_map]; omega) (fun y e => ?_) hs
  rw [ints_get e, Int.toNat_natCast]
  exact hp

theorem difference_ok {f Cp Ct Co Cc Cf Cg : Addr} {R S : List (List Int)} {w h : Nat} {P : AV → Led → Prop} (X : DiffK C.K Cp Ct Co Cc Cf Cg) (W : Wf R w h) (V : Wf S w h) (F : FnIs C.K f "difference" "difference" (stm prg 55))
    (hP : P (planeA Cp (.int w) (.int h) (rowsAV (mk w h fun y x => cN R y x - cN S y x))) mu) :
    Code' C (n + 3) (.ref f) [planeA Cp (.int w) (.int h) (rowsAV R), planeA Cp (.int w) (.int h) (rowsAV S)] mu P := by
  refine code_fn ["plane", "reference"] F rfl ?hb ?hk ?hn ?hc rfl rfl rfl ?body
  case hb => intro vs h pm cdv ct; obtain ⟨v, w, rfl⟩ := len2 h; rfl
  case hk => decide
  case hn => decide
  case hc => decide
  case body =>
    intro L cdv
    have wz := W.wz
    have hz := W.hz
    refine X_cons ?_
    refine X_set (.inl rfl) ?_
    refine T_listM (TL_nil ⟨by decide, fun a ha => ?_⟩)
    refine X_cons ?_
    refine X_forW [(Str.ofString "rows", .val (.ref a)), (Str.ofString "plane", planeA Cp (.int w) (.int h) (rowsAV R)), (Str.ofString "reference", planeA Cp (.int w) (.int h) (rowsAV S))] (by walk_at "mine le") (.inr ⟨rfl, rfl⟩) ?_
    refine T_callTn X.z.b.range rfl rfl ?_
    walk_at "mine wk"
    refine O_fld X.p.height.a rfl ?_
    walk_at "mine wk"
    refine F_range1 ?_
    refine ⟨_, Iter.range1 (by omega) (by omega), fun y mu' => mu' = put mu a (.list ((List.range y).map fun y => rowAV ((List.range w).map fun x => cN R y x - cN S y x))), rfl, ?_, ?_⟩
    · rintro y mu' y' hi rfl
      obtain ⟨hlt, rfl⟩ := range_get hi
      have hlt : y < h := by omega
      refine X_cons (X_expr (T_append ?_))
      walk_at "mine wk"
      refine ⟨a, _, rfl, put_get, ?_⟩
      refine T_compA [(Str.ofString "plane", planeA Cp (.int w) (.int h) (rowsAV R)), (Str.ofString "reference", planeA Cp (.int w) (.int h) (rowsAV S)), (Str.ofString "y", .int (y : Nat))] rfl ?_
      refine T_callTn X.z.b.range rfl rfl ?_
      walk_at "mine wk"
      refine O_fld X.p.width.a rfl ?_
      walk_at "mine wk"
      refine F_range1 ?_
      refine ⟨_, Iter.range1 (by omega) (by omega), by simp; omega, fun x acc mu' => acc = ((List.range x).map fun x => AV.int (cN R y x - cN S y x)) ∧ mu' = put mu a (.list ((List.range y).map fun y => rowAV ((List.range w).map fun x => cN R y x - cN S y x))), ⟨rfl, rfl⟩, ?_, ?_⟩
      · rintro L2 x acc mu' y' hj - ⟨rfl, rfl⟩
        obtain ⟨hxt, rfl⟩ := range_get hj
        have hxt : x < w := by omega
        walk_at "mine wk"
        refine O_fld X.p.rows.a rfl ?_
        walk_at "mine wk"
        refine O_row W hlt ?_
        walk_at "mine wk"
        refine O_cell (by rw [W.row hlt]; exact hxt) (by rw [W.row hlt]; omega) ?_
        walk_at "mine wk"
        refine O_fld X.p.rows.a rfl ?_
        walk_at "mine wk"
        refine O_row V hlt ?_
        walk_at "mine wk"
        refine O_cell (by rw [V.row hlt]; exact hxt) (by rw [V.row hlt]; omega) ?_
        walk_at "mine wk"
        refine ⟨?_, rfl⟩
        rw [range_snoc]
        rfl
      · rintro acc mu' hacc ⟨rfl, rfl⟩
        refine ⟨_, put_get, by simp; omega, rfl, ?_⟩
        walk_at "mine wk"
        refine ⟨rfl, by walk_at "mine le", ?_⟩
        show _ = _
        rw [put_same, range_snoc, List.length_map, List.length_range, Int.toNat_natCast, row_mk]
    · rintro mu' rfl
      refine X_cons ?_
      refine X_settle (x := Str.ofString "rows") put_get rfl ?_
      rw [del_put ha]
      refine X_ret ?_
      refine T_callC X.p.cls rfl ?_
      walk_at "mine wk"
      refine O_fld X.p.width.a rfl ?_
      walk_at "mine wk"
      refine O_fld X.p.height.a rfl ?_
      walk_at "mine wk"
      rw [List.length_map, List.length_range, Int.toNat_natCast, ← rowsAV_mk]
      exact (plane_ok X.p hP).call

noncomputable def clampI (b a : Int) : Int := if a < 0 then 0 else if a > b then b else a
theorem added_ok {f Cp Ct Co Cc Cf Cg : Addr} {R S : List (List Int)} {w h : Nat} {b : Int} {P : AV → Led → Prop} (X : DiffK C.K Cp Ct Co Cc Cf Cg) (W : Wf R w h) (V : Wf S w h) (F : FnIs C.K f "added" "added" (stm prg 56))
    (hP : P (planeA Cp (.int w) (.int h) (rowsAV (mk w h fun y x => clampI b (cN R y x + cN S y x)))) mu) :
    Code' C (n + 3) (.ref f) [planeA Cp (.int w) (.int h) (rowsAV R), rowsAV S, .int b] mu P := by
  refine code_fn ["reference", "rows", "most"] F rfl ?hb ?hk ?hn ?hc rfl rfl rfl ?body
  case hb => intro vs h pm cdv ct; obtain ⟨v, w, u, rfl⟩ := len3 h; rfl
  case hk => decide
  case hn => decide
  case hc => decide
  case body =>
    intro L cdv
    have wz := W.wz
    have hz := W.hz
    refine X_cons ?_
    refine X_set (.inl rfl) ?_
    refine T_listM (TL_nil ⟨by decide, fun a ha => ?_⟩)
    refine X_cons ?_
    refine X_forW [(Str.ofString "found", .val (.ref a)), (Str.ofString "reference", planeA Cp (.int w) (.int h) (rowsAV R)), (Str.ofString "rows", rowsAV S), (Str.ofString "most", .int b)] (by walk_at "mine le") (.inr ⟨rfl, rfl⟩) ?_
    refine T_callTn X.z.b.range rfl rfl ?_
    walk_at "mine wk"
    refine O_fld X.p.height.a rfl ?_
    walk_at "mine wk"
    refine F_range1 ?_
    refine ⟨_, Iter.range1 (by omega) (by omega), fun y mu' => mu' = put mu a (.list ((List.range y).map fun y => rowAV ((List.range w).map fun x => clampI b (cN R y x + cN S y x)))), rfl, ?_, ?_⟩
    · rintro y mu' y' hi rfl
      obtain ⟨hlt, rfl⟩ := range_get hi
      have hlt : y < h := by omega
      refine X_cons (X_set (.inr ⟨rfl, rfl⟩) ?_)
      walk_at "mine wk"
      refine O_fld X.p.rows.a rfl ?_
      walk_at "mine wk"
      refine O_row W hlt ?_
      refine X_cons (X_expr (T_append ?_))
      walk_at "mine wk"
      refine ⟨a, _, rfl, put_get, ?_⟩
      refine T_compA [(Str.ofString "line", rowAV (R.getD y [])), (Str.ofString "rows", rowsAV S), (Str.ofString "most", .int b), (Str.ofString "y", .int (y : Nat))] rfl ?_
      refine T_callTn X.z.b.range rfl rfl ?_
      walk_at "mine wk"
      refine O_fld X.p.width.a rfl ?_
      walk_at "mine wk"
      refine F_range1 ?_
      refine ⟨_, Iter.range1 (by omega) (by omega), by simp; omega, fun x acc mu' => acc = ((List.range x).map fun x => AV.int (clampI b (cN R y x + cN S y x))) ∧ mu' = put mu a (.list ((List.range y).map fun y => rowAV ((List.range w).map fun x => clampI b (cN R y x + cN S y x)))), ⟨rfl, rfl⟩, ?_, ?_⟩
      · rintro L2 x acc mu' y' hj - ⟨rfl, rfl⟩
        obtain ⟨hxt, rfl⟩ := range_get hj
        have hxt : x < w := by omega
        refine T_callG X.clamped rfl fun f F => ?_
        walk_at "mine wk"
        refine O_cell (by rw [W.row hlt]; exact hxt) (by rw [W.row hlt]; omega) ?_
        walk_at "mine wk"
        refine O_row V hlt ?_
        walk_at "mine wk"
        refine O_cell (by rw [V.row hlt]; exact hxt) (by rw [V.row hlt]; omega) ?_
        walk_at "mine wk"
        refine (clamped_ok F ?_).call
        refine ⟨?_, rfl⟩
        rw [range_snoc]
        rfl
      · rintro acc mu' hacc ⟨rfl, rfl⟩
        refine ⟨_, put_get, by simp; omega, rfl, ?_⟩
        walk_at "mine wk"
        refine ⟨rfl, by walk_at "mine le", ?_⟩
        show _ = _
        rw [put_same, range_snoc, List.length_map, List.length_range, Int.toNat_natCast, row_mk]
    · rintro mu' rfl
      refine X_cons ?_
      refine X_settle (x := Str.ofString "found") put_get rfl ?_
      rw [del_put ha]
      refine X_ret ?_
      refine T_callC X.p.cls rfl ?_
      walk_at "mine wk"
      refine O_fld X.p.width.a rfl ?_
      walk_at "mine wk"
      refine O_fld X.p.height.a rfl ?_
      walk_at "mine wk"
      rw [List.length_map, List.length_range, Int.toNat_natCast, ← rowsAV_mk]
      exact (plane_ok X.p hP).call
end

/-! ### P9 -/
theorem fwd_len {s : Nat} {r : List Int} (hs : Side s) (hr : r.length = s * s) : (fwd s r).length = s * s := by
  rcases hs with rfl | rfl
  · obtain ⟨a, b, c, d, rfl⟩ := len4 hr; rfl
  · obtain ⟨a, rfl⟩ := len1 hr; rfl
theorem inv_len {s : Nat} {r : List Int} (hs : Side s) (hr : r.length = s * s) : (inv s r).length = s * s := by
  rcases hs with rfl | rfl
  · obtain ⟨a, b, c, d, rfl⟩ := len4 hr; rfl
  · obtain ⟨a, rfl⟩ := len1 hr; rfl
theorem block_len (R : List (List Int)) (w h x y s : Nat) : (blockOf R w h x y s).length = s * s := flat_len _ s (fun i => by simp) s
theorem quant_len (ds r : List Int) : (quant ds r).length = r.length := by simp [quant]
theorem dequant_len (ds r : List Int) : (dequant ds r).length = r.length := by simp [dequant]
noncomputable def coef (s : Nat) (ds : List Int) (R : List (List Int)) (w h y x : Nat) : List Int := quant ds (fwd s (blockOf R w h x y s))
theorem coef_len {s : Nat} {ds : List Int} {R : List (List Int)} {w h y x : Nat} (hs : Side s) : (coef s ds R w h y x).length = s * s := by
  unfold coef
  rw [quant_len, fwd_len hs (block_len ..)]

section
variable {C : Cfg} {n : Nat} {env : Env} {m : Mp} {mu : Led}
theorem put_ok {f Cp Ct Co Cc Cf Cg p : Addr} {as : List Addr} {R0 : Nat → Nat → AV} {R : List (List Int)} {w h s : Nat} {ds : List Int} {P : AV → Led → Prop} (X : DiffK C.K Cp Ct Co Cc Cf Cg) (hs : Side s) (W : Wf R w h) (D : DivOk ds (s * s))
    (G : GridIs mu p as R0 (nb h s) (nb w s)) (F : FnIs C.K f "put_differences" "put_differences" (stm prg 57))
    (hP : ∀ R' mu', GridIs mu' p as R' (nb h s) (nb w s) → (∀ y x, y < nb h s → x < nb w s → R' y x = rowAV (coef s ds R w h y x)) → P (.val .none) mu') :
    Code' C (n + 5) (.ref f) [frameA Cc Cf w h s, gridA Cg p s, .int 0, planeA Cp (.int w) (.int h) (rowsAV R), .tup (ds.map .int)] mu P := by
  refine code_fn ["frame", "grid", "place", "plane", "qtable"] F rfl ?hb ?hk ?hn ?hc rfl rfl rfl ?body
  case hb => intro vs h pm cdv ct; obtain ⟨v, w, u, t, s, rfl⟩ := len5 h; rfl
  case hk => decide
  case hn => decide
  case hc => decide
  case body =>
    intro L cdv
    have hs2 : s ≤ 2 := by rcases hs with rfl | rfl <;> decide
    have h4 : s * s ≤ 4 := Nat.mul_le_mul hs2 hs2
    have hnx := nb_le hs W.wz
    have hny := nb_le hs W.hz
    refine X_cons (X_assign ?_)
    obtain ⟨fm, M, F2⟩ := X.f.blocks
    refine T_meth ?_
    walk_at "mine wk"
    refine ⟨_, _, fm, rfl, rfl, M, ?_⟩
    walk_at "mine wk"
    refine (blocks_ok X.f hs F2 ?_).call
    refine A_one (A_tuple [.int (nb w s : Nat), .int (nb h s : Nat)] (.inr rfl) rfl rfl ?_)
    refine AL_cons (A_name (.inl rfl) ?_)
    refine AL_cons (A_name (.inl rfl) ?_)
    refine AL_nil ?_
    refine X_cons ?_
    let m0 : Mp := [(Str.ofString "down", .int (nb h s : Nat)), (Str.ofString "across", .int (nb w s : Nat)), (Str.ofString "frame", frameA Cc Cf w h s), (Str.ofString "grid", gridA Cg p s), (Str.ofString "place", .int 0), (Str.ofString "plane", planeA Cp (.int w) (.int h) (rowsAV R)), (Str.ofString "qtable", .tup (ds.map .int))]
    refine X_forW m0 (by walk_at "mine le") (.inl rfl) ?_
    refine T_callTn X.z.b.range rfl rfl ?_
    walk_at "mine wk"
    refine F_range1 ?_
    refine ⟨_, Iter.range1 (by omega) (by omega), fun y mu' => ∃ R', GridIs mu' p as R' (nb h s) (nb w s) ∧ ∀ y' x', y' < y → x' < nb w s → R' y' x' = rowAV (coef s ds R w h y' x'), ⟨R0, G, fun y' x' z => absurd z (Nat.not_lt_zero _)⟩, ?_, ?_⟩
    · rintro y mu' y' hi ⟨R1, G1, e1⟩
      obtain ⟨hlt, rfl⟩ := range_get hi
      have hlt : y < nb h s := by omega
      refine X_cons ?_
      refine X_forW ((Str.ofString "y", .int (y : Nat)) :: m0) (by walk_at "mine le") (.inl rfl) ?_
      refine T_callTn X.z.b.range rfl rfl ?_
      walk_at "mine wk"
      refine F_range1 ?_
      refine ⟨_, Iter.range1 (by omega) (by omega), fun x mu' => ∃ R', GridIs mu' p as R' (nb h s) (nb w s) ∧ ∀ y' x', (y' < y ∨ y' = y ∧ x' < x) → x' < nb w s → R' y' x' = rowAV (coef s ds R w h y' x'), ⟨R1, G1, fun y' x' z hx => e1 y' x' (by omega) hx⟩, ?_, ?_⟩
      · rintro x mu2 x' hx ⟨R2, G2, e2⟩
        obtain ⟨hxt, rfl⟩ := range_get hx
        have hxt : x < nb w s := by omega
        refine X_cons (X_set (.inl rfl) ?_)
        refine T_callG X.z.to_row rfl fun f1 F1 => ?_
        refine TL_cons ?_
        refine T_callG X.d.forward rfl fun f2 F2 => ?_
        refine TL_cons ?_
        refine T_callG X.bk.blk rfl fun f3 F3 => ?_
        walk_at "mine wk"
        refine O_fld X.f.n.a rfl ?_
        walk_at "mine wk"
        refine (block_ok X.bk W (by omega) (by omega) (by omega) F3 ?_).call
        walk_at "mine wk"
        refine O_fld X.f.n.a rfl ?_
        walk_at "mine wk"
        refine (forward_ok X.d hs (block_len ..) F2 ?_).call
        walk_at "mine wk"
        refine O_fld X.f.n.a rfl ?_
        walk_at "mine wk"
        refine (to_row_ok X.z hs (fwd_len hs (block_len ..)) F1 ?_).call
        refine X_cons (X_expr ?_)
        obtain ⟨fp, M, F4⟩ := X.g.put
        refine T_meth ?_
        walk_at "mine wk"
        refine ⟨_, _, fp, rfl, rfl, M, ?_⟩
        walk_at "mine wk"
        refine T_callG X.z.quantise rfl fun f5 F5 => ?_
        walk_at "mine wk"
        refine T_globI X.scale rfl ?_
        walk_at "mine wk"
        refine (quantise_ok X.z hs (fwd_len hs (block_len ..)) D F5 ?_).call
        walk_at "mine wk"
        refine (gput_ok X.z.b X.g G2 hlt hxt hny hnx (by rw [quant_len, fwd_len hs (block_len ..)]; omega) F4 fun mu3 G3 => ?_).call
        refine ⟨rfl, ?_⟩
        walk_at "mine wk"
        refine ⟨rfl, by walk_at "mine le", _, G3, fun y' x' z hx => ?_⟩
        unfold upd
        split
        · rename_i c
          rw [c.1, c.2]; rfl
        · exact e2 y' x' (by omega) hx
      · rintro mu2 ⟨R2, G2, e2⟩
        walk_at "mine wk"
        refine ⟨rfl, by walk_at "mine le", R2, G2, fun y' x' z hx => e2 y' x' ?_ hx⟩
        simp; omega
    · rintro mu' ⟨R2, G2, e2⟩
      walk_at "mine wk"
      exact hP R2 mu' G2 fun y x hy hx => e2 y x (by simp; omega) hx

theorem natmul (a b : Nat) : (a : Int) * (b : Int) = ((a * b : Nat) : Int) := by simp
theorem slice_range (b : List Int) (j k : Nat) (h : j + k ≤ b.length) : ((b.map AV.int).drop j).take k = (List.range k).map fun i => AV.int (b.getD (j + i) 0) := by
  apply List.ext_getElem
  · simp; omega
  · intro i h1 h2
    simp only [List.length_map, List.length_range] at h2
    have : j + i < b.length := by omega
    simp [List.getD, this]
theorem Ext.refl {mu : Led} : Ext mu mu := fun _ _ e => e
theorem Ext.trans {a b c : Led} (x : Ext a b) (y : Ext b c) : Ext a c := fun _ _ e => y _ _ (x _ _ e)
theorem Ext.putF {mu mu' : Led} {a : Addr} {o : AO} (x : Ext mu mu') (h : mu a = none) : Ext mu (Mine.put mu' a o) := fun b o' e => by
  rw [put_ne (fun z => by rw [z, h] at e; cases e)]; exact x b o' e
theorem nb_ge {w s : Nat} (hs : Side s) : w ≤ nb w s * s := by
  unfold nb
  rcases hs with rfl | rfl <;> omega
theorem divm {y s i : Nat} (h : i < s) : (y * s + i) / s = y := by
  rw [Nat.mul_comm, Nat.mul_add_div (Nat.zero_lt_of_lt h), Nat.div_eq_of_lt h, Nat.add_zero]
theorem modm {y s i : Nat} (h : i < s) : (y * s + i) % s = i := by
  rw [Nat.mul_comm, Nat.mul_add_mod, Nat.mod_eq_of_lt h]
theorem pair_lt {a b s : Nat} (ha : a < s) (hb : b < s) : a * s + b < s * s :=
  Nat.lt_of_lt_of_le (Nat.add_lt_add_left hb _) (Nat.succ_mul a s ▸ Nat.mul_le_mul_right s ha)
theorem at_start {A B : Prop} {k : Nat} (z : A ∨ B ∧ k < 0) : A := z.elim id fun w => absurd w.2 (Nat.not_lt_zero _)
theorem at_start2 {A B C D : Prop} {k : Nat} (z : A ∨ B ∧ (C ∨ D ∧ k < 0)) : A ∨ B ∧ C := z.elim .inl fun w => .inr ⟨w.1, at_start w.2⟩
theorem at_end {a y b n : Nat} (h : b < n) (z : a < y + 1) : a < y ∨ a = y ∧ b < n := (Nat.lt_or_eq_of_le (Nat.le_of_lt_succ z)).elim .inl fun e => .inr ⟨e, h⟩
theorem at_end2 {A B : Prop} {a y b n : Nat} (h : b < n) (z : A ∨ B ∧ a < y + 1) : A ∨ B ∧ (a < y ∨ a = y ∧ b < n) := z.elim .inl fun w => .inr ⟨w.1, at_end h w.2⟩
theorem run_turn {s y x t y' x' : Nat} (s0 : 1 ≤ s) (c : ¬ (y' = y * s + t ∧ x * s ≤ x' ∧ x' < x * s + s)) (z : y' / s < y ∨ y' / s = y ∧ (x' / s < x ∨ x' / s = x ∧ y' % s < t + 1)) :
    y' / s < y ∨ y' / s = y ∧ (x' / s < x ∨ x' / s = x ∧ y' % s < t) := by
  rcases z with z | ⟨z1, z2 | ⟨z3, z4⟩⟩
  · exact .inl z
  · exact .inr ⟨z1, .inl z2⟩
  · refine .inr ⟨z1, .inr ⟨z3, Nat.lt_of_le_of_ne (Nat.le_of_lt_succ z4) fun q => c ⟨?_, ?_, ?_⟩⟩⟩
    · rw [← z1, ← q]; exact (Nat.div_add_mod' y' s).symm
    · rw [← z3]; exact Nat.div_mul_le_self x' s
    · rw [← z3]; exact Nat.lt_div_mul_add s0
theorem cell_turn {s y x t tq tr y' x' : Nat} (s0 : 1 ≤ s) (h2 : tr < s) (h : tq * s + tr = t) (c : ¬ (y' = y * s + tq ∧ x' = x * s + tr))
    (z : y' / s < y ∨ y' / s = y ∧ (x' / s < x ∨ x' / s = x ∧ y' % s * s + x' % s < t + 1)) :
    y' / s < y ∨ y' / s = y ∧ (x' / s < x ∨ x' / s = x ∧ y' % s * s + x' % s < t) := by
  rcases z with z | ⟨z1, z2 | ⟨z3, z4⟩⟩
  · exact .inl z
  · exact .inr ⟨z1, .inl z2⟩
  · refine .inr ⟨z1, .inr ⟨z3, Nat.lt_of_le_of_ne (Nat.le_of_lt_succ z4) fun q => ?_⟩⟩
    rw [← h] at q
    have m := Nat.mod_lt x' s0
    have e1 : y' % s = tq := by rw [← divm (y := y' % s) m, q, divm h2]
    have e2 : x' % s = tr := by rw [← modm (y := y' % s) m, q, modm h2]
    refine c ⟨?_, ?_⟩
    · rw [← z1, ← e1]; exact (Nat.div_add_mod' y' s).symm
    · rw [← z3, ← e2]; exact (Nat.div_add_mod' x' s).symm
theorem nb_gt {x w s : Nat} (s0 : 1 ≤ s) (h : x < w) : x / s < nb w s := by
  unfold nb
  rw [Nat.lt_iff_add_one_le, ← Nat.add_div_right x s0]
  exact Nat.div_le_div_right (by omega)
theorem div_turn {x n s : Nat} (h : x < n * s) : x / s < n := Nat.div_lt_of_lt_mul (Nat.mul_comm n s ▸ h)
noncomputable def toldAt (s : Nat) (ds : List Int) (Q : Nat → Nat → List Int) (y x : Nat) : Int := (inv s (dequant ds (Q (y / s) (x / s)))).getD (y % s * s + x % s) 0
theorem told_ok {f Cp Ct Co Cc Cf Cg p : Addr} {as : List Addr} {R : Nat → Nat → AV} {Q : Nat → Nat → List Int} {w h s : Nat} {ds : List Int} {P : AV → Led → Prop} (X : DiffK C.K Cp Ct Co Cc Cf Cg) (hs : Side s) (wz : w ≤ 100) (hz : h ≤ 100) (D : DivOk ds (s * s))
    (G : GridIs mu p as R (nb h s) (nb w s)) (hQ : ∀ y x, y < nb h s → x < nb w s → R y x = rowAV (Q y x) ∧ (Q y x).length = s * s) (F : FnIs C.K f "told_differences" "told_differences" (stm prg 58))
    (hP : ∀ mu', Ext mu mu' → P (rowsAV (mk w h (toldAt s ds Q))) mu') :
    Code' C (n + 5) (.ref f) [frameA Cc Cf w h s, gridA Cg p s, .int 0, .tup (ds.map .int)] mu P := by
  refine code_fn ["frame", "grid", "place", "qtable"] F rfl ?hb ?hk ?hn ?hc rfl rfl rfl ?body
  case hb => intro vs h pm cdv ct; obtain ⟨v, w, u, t, rfl⟩ := len4 h; rfl
  case hk => decide
  case hn => decide
  case hc => decide
  case body =>
    intro L cdv
    have hs2 : s ≤ 2 := by rcases hs with rfl | rfl <;> decide
    have hs1 : 1 ≤ s := by rcases hs with rfl | rfl <;> decide
    have h4 : s * s ≤ 4 := Nat.mul_le_mul hs2 hs2
    have hnx := nb_le hs wz
    have hny := nb_le hs hz
    have hwx := nb_ge (w := w) hs
    have hwy := nb_ge (w := h) hs
    have hxs : nb w s * s ≤ 200 := Nat.le_trans (Nat.mul_le_mul hnx hs2) (by decide)
    have hys : nb h s * s ≤ 200 := Nat.le_trans (Nat.mul_le_mul hny hs2) (by decide)
    refine X_cons (X_assign ?_)
    obtain ⟨fm, M, F2⟩ := X.f.plane_size
    refine T_meth ?_
    walk_at "mine wk"
    refine ⟨_, _, fm, rfl, rfl, M, ?_⟩
    walk_at "mine wk"
    refine (plane_size_ok X.f F2 ?_).call
    refine A_one (A_tuple [.int w, .int h] (.inr rfl) rfl rfl ?_)
    refine AL_cons (A_name (.inr ⟨rfl, rfl⟩) ?_)
    refine AL_cons (A_name (.inl rfl) ?_)
    refine AL_nil ?_
    refine X_cons (X_assign ?_)
    obtain ⟨fm, M, F2⟩ := X.f.blocks
    refine T_meth ?_
    walk_at "mine wk"
    refine ⟨_, _, fm, rfl, rfl, M, ?_⟩
    walk_at "mine wk"
    refine (blocks_ok X.f hs F2 ?_).call
    refine A_one (A_tuple [.int (nb w s : Nat), .int (nb h s : Nat)] (.inr rfl) rfl rfl ?_)
    refine AL_cons (A_name (.inr ⟨rfl, rfl⟩) ?_)
    refine AL_cons (A_name (.inl rfl) ?_)
    refine AL_nil ?_
    refine X_cons (X_set (.inr ⟨rfl, rfl⟩) ?_)
    walk_at "mine wk"
    refine O_fld X.f.n.a rfl ?_
    refine X_cons ?_
    refine X_compA [(Str.ofString "across", .int (nb w s : Nat)), (Str.ofString "n", .int s)] rfl ?_
    refine T_callTn X.z.b.range rfl rfl ?_
    walk_at "mine wk"
    refine O_mul (.inl (by omega)) ?_
    walk_at "mine wk"
    refine F_range1 ?_
    rw [natmul]
    refine ⟨_, Iter.range1 (by omega) (by omega), by simp; omega, fun j acc mu2 => MkRows mu (.int 0) (nb w s * s) j acc mu2, MkRows.zero, ?_, ?_⟩
    · rintro L2 j acc mu2 y hj - J
      walk_at "mine wk"
      refine T_list ?_
      walk_at "mine wk"
      refine ⟨by simp, ?_⟩
      walk_at "mine wk"
      refine O_mul (.inl (by omega)) ?_
      rw [natmul]
      refine O_repM (by omega) (by omega) fun r hr => ?_
      rw [Int.toNat_natCast]
      exact J.step hr
    rintro acc mu1 hacc ⟨as2, rfl, r1, k1, fr⟩
    simp only [List.length_map, List.length_range, Int.toNat_natCast] at r1
    have hl := r1.len
    let m0 : Mp := [(Str.ofString "rows", .list (refs as2)), (Str.ofString "n", .int s), (Str.ofString "down", .int (nb h s : Nat)), (Str.ofString "across", .int (nb w s : Nat)), (Str.ofString "height", .int h), (Str.ofString "width", .int w),
      (Str.ofString "frame", frameA Cc Cf w h s), (Str.ofString "grid", gridA Cg p s), (Str.ofString "place", .int 0), (Str.ofString "qtable", .tup (ds.map .int))]
    refine X_cons ?_
    refine X_forW m0 (by walk_at "mine le") (.inl rfl) ?_
    refine T_callTn X.z.b.range rfl rfl ?_
    walk_at "mine wk"
    refine F_range1 ?_
    refine ⟨_, Iter.range1 (by omega) (by omega), fun y mu' => Ext mu mu' ∧ ∃ R2, RR mu' as2 R2 (nb h s * s) (nb w s * s) ∧ ∀ y' x', y' / s < y → x' < nb w s * s → R2 y' x' = .int (toldAt s ds Q y' x'), ⟨k1, _, r1, fun y' x' z => absurd z (Nat.not_lt_zero _)⟩, ?_, ?_⟩
    · rintro y mu' y' hi ⟨kE, R2, r2, e2⟩
      obtain ⟨hlt, rfl⟩ := range_get hi
      have hlt : y < nb h s := by omega
      have hyle : y * s + s ≤ nb h s * s := by
        have := Nat.mul_le_mul_right s (Nat.succ_le_of_lt hlt)
        rwa [Nat.succ_mul] at this
      refine X_cons ?_
      refine X_forW ((Str.ofString "y", .int (y : Nat)) :: m0) (by walk_at "mine le") (.inl rfl) ?_
      refine T_callTn X.z.b.range rfl rfl ?_
      walk_at "mine wk"
      refine F_range1 ?_
      refine ⟨_, Iter.range1 (by omega) (by omega), fun x mu' => Ext mu mu' ∧ ∃ R2, RR mu' as2 R2 (nb h s * s) (nb w s * s) ∧ ∀ y' x', (y' / s < y ∨ y' / s = y ∧ x' / s < x) → x' < nb w s * s → R2 y' x' = .int (toldAt s ds Q y' x'), ⟨kE, R2, r2, fun y' x' z hx => e2 y' x' (at_start z) hx⟩, ?_, ?_⟩
      · clear kE r2 e2 R2 mu'
        rintro x mu' x' hx ⟨kE, R2, r2, e2⟩
        obtain ⟨hxt, rfl⟩ := range_get hx
        have hxt : x < nb w s := by omega
        have hxle : x * s + s ≤ nb w s * s := by
          have := Nat.mul_le_mul_right s (Nat.succ_le_of_lt hxt)
          rwa [Nat.succ_mul] at this
        obtain ⟨eR, lQ⟩ := hQ y x hlt hxt
        refine X_cons (X_set (.inl rfl) ?_)
        refine T_callG X.d.inverse rfl fun f1 F1 => ?_
        refine TL_cons ?_
        refine T_callG X.z.to_block rfl fun f2 F2 => ?_
        refine TL_cons ?_
        refine T_callG X.z.dequantise rfl fun f3 F3 => ?_
        refine TL_cons ?_
        obtain ⟨fp, M, F4⟩ := X.g.get
        refine T_meth ?_
        walk_at "mine wk"
        refine ⟨_, _, fp, rfl, rfl, M, ?_⟩
        walk_at "mine wk"
        refine (get_ok X.g (G.ext kE) hlt hxt hny hnx eR F4 ?_).call
        walk_at "mine wk"
        refine (dequantise_ok X.z hs lQ D F3 ?_).call
        walk_at "mine wk"
        refine (to_block_ok X.z hs (by rw [dequant_len, lQ]) F2 ?_).call
        walk_at "mine wk"
        refine (inverse_ok X.d hs (by rw [dequant_len, lQ]) F1 ?_).call
        have lb : (inv s (dequant ds (Q y x))).length = s * s := inv_len hs (by rw [dequant_len, lQ])
        have vb : ∀ i j, i < s → j < s → toldAt s ds Q (y * s + i) (x * s + j) = (inv s (dequant ds (Q y x))).getD (i * s + j) 0 := by
          intro i j hi hj
          unfold toldAt
          rw [divm hi, divm hj, modm hi, modm hj]
        generalize inv s (dequant ds (Q y x)) = b at lb vb
        refine X_cons ?_
        refine X_forW ((Str.ofString "block", rowAV b) :: (Str.ofString "x", .int (x : Nat)) :: (Str.ofString "y", .int (y : Nat)) :: m0) (by walk_at "mine le") (.inl rfl) ?_
        refine T_callTn X.z.b.range rfl rfl ?_
        walk_at "mine wk"
        refine F_range1 ?_
        refine ⟨_, Iter.range1 (by omega) (by omega), fun t mu' => Ext mu mu' ∧ ∃ R2, RR mu' as2 R2 (nb h s * s) (nb w s * s) ∧ ∀ y' x', (y' / s < y ∨ y' / s = y ∧ (x' / s < x ∨ x' / s = x ∧ y' % s < t)) → x' < nb w s * s → R2 y' x' = .int (toldAt s ds Q y' x'), ⟨kE, R2, r2, fun y' x' z hx => e2 y' x' (at_start2 z) hx⟩, ?_, ?_⟩
        · clear kE r2 e2 R2 mu'
          rintro t mu' t' ht ⟨kE, R2, r2, e2⟩
          obtain ⟨htt, rfl⟩ := range_get ht
          have htt : t < s := by omega
          have htl : t * s + s ≤ s * s := by
            have := Nat.mul_le_mul_right s (Nat.succ_le_of_lt htt)
            rwa [Nat.succ_mul] at this
          refine X_cons (X_assign ?_)
          refine T_slice_run rfl ?_
          walk_at "mine wk"
          refine O_mul (.inl (by omega)) ?_
          walk_at "mine wk"
          refine O_mul (.inl (by omega)) ?_
          walk_at "mine wk"
          rw [natmul]
          refine ⟨_, _, _, rfl, rfl, rfl, by omega, by omega, by rw [List.length_map]; omega, by rw [List.length_map]; omega, ?_⟩
          rw [show Int.toNat (((t * s : Nat) : Int) + s) - Int.toNat ((t * s : Nat) : Int) = s by omega, Int.toNat_natCast, slice_range b _ _ (by omega)]
          refine A_one (A_slice ?_)
          walk_at "mine wk"
          refine O_mul (.inl (by omega)) ?_
          walk_at "mine wk"
          rw [natmul]
          refine O_item (by omega) (by rw [refs_len]; omega) (by rw [refs_len]; omega) fun z ez => ?_
          obtain ⟨a, ea, rfl⟩ := refs_get ez
          walk_at "mine wk"
          refine O_mul (.inl (by omega)) ?_
          walk_at "mine wk"
          refine O_mul (.inl (by omega)) ?_
          walk_at "mine wk"
          rw [natmul]
          refine ⟨a, _, _, _, rfl, rfl, rfl, r2.row _ a ea, by omega, by omega, by simp; omega, by simp; omega, ?_⟩
          walk_at "mine wk"
          rw [show Int.toNat (((x * s : Nat) : Int) + s) = x * s + s by omega, Int.toNat_natCast]
          refine ⟨rfl, by walk_at "mine le", kE.putF (fr a (get_mem ea)), _, r2.run ea hxle, fun y' x' z hx => ?_⟩
          have eY : Int.toNat (((y * s : Nat) : Int) + t) = y * s + t := by omega
          rw [eY]
          unfold updR
          split
          · rename_i c
            obtain ⟨rfl, c1, c2⟩ := c
            have := vb t (x' - x * s) htt (by omega)
            rw [show x * s + (x' - x * s) = x' by omega] at this
            rw [this]
          · rename_i c
            exact e2 y' x' (run_turn hs1 c z) hx
        · rintro mu' ⟨kE, R2, r2, e2⟩
          walk_at "mine wk"
          refine ⟨rfl, by walk_at "mine le", kE, R2, r2, fun y' x' z hx => e2 y' x' ?_ hx⟩
          rw [List.length_map, List.length_range, Int.toNat_natCast]
          exact at_end2 (Nat.mod_lt _ hs1) z
      · rintro mu' ⟨kE, R2, r2, e2⟩
        walk_at "mine wk"
        refine ⟨rfl, by walk_at "mine le", kE, R2, r2, fun y' x' z hx => e2 y' x' ?_ hx⟩
        rw [List.length_map, List.length_range, Int.toNat_natCast]
        exact at_end (div_turn hx) z
    · rintro mu' ⟨kE, R2, r2, e2⟩
      refine X_cons (X_ret ?_)
      refine T_compA [(Str.ofString "width", .int w)] rfl ?_
      refine T_slice_upto rfl ?_
      walk_at "mine wk"
      refine ⟨_, _, .inl rfl, rfl, by omega, by rw [refs_len]; omega, ?_⟩
      refine ⟨_, Iter.list _, by rw [List.length_take, refs_len]; omega, fun j acc mu2 => acc = ((List.range j).map fun y => rowAV ((List.range w).map fun x => toldAt s ds Q y x)) ∧ mu2 = mu', ⟨rfl, rfl⟩, ?_, ?_⟩
      · rintro L2 j acc mu2 z hj - ⟨rfl, rfl⟩
        rw [List.getElem?_take] at hj
        split at hj
        · rename_i c
          obtain ⟨a, ea, rfl⟩ := refs_get hj
          have c : j < h := by omega
          refine T_slice_upto rfl ?_
          walk_at "mine wk"
          refine ⟨_, _, .inr ⟨a, rfl, r2.row _ a ea⟩, rfl, by omega, by simp; omega, ?_, rfl⟩
          rw [range_snoc]
          congr 2
          rw [row_mk, Int.toNat_natCast, ← List.map_take, List.take_range, Nat.min_eq_left hwx]
          congr 1
          apply List.map_congr_left
          intro x hx
          refine e2 j x ?_ (Nat.lt_of_lt_of_le (List.mem_range.mp hx) hwx)
          rw [List.length_map, List.length_range, Int.toNat_natCast]
          exact div_turn (Nat.lt_of_lt_of_le c hwy)
        · cases hj
      · rintro acc mu2 hacc ⟨rfl, rfl⟩
        rw [List.length_take, refs_len, hl, Int.toNat_natCast, Nat.min_eq_left hwy, ← rowsAV_mk]
        exact hP _ kE
end

/-! ### P10 -/
structure LawK (K : Frag) : Prop where
  b : BltK K
  source : GF K "_law_source" (stm prg 66)
  draw : GF K "_law_draw" (stm prg 67)
  rows : GF K "_law_rows" (stm prg 68)
  sums : GF K "_law_sums" (stm prg 69)
  parted : GF K "_law_parted" (stm prg 70)
  coded : GF K "_law_coded" (stm prg 71)
  meant : GF K "_law_meant" (stm prg 72)

/-- the two numbers from which the law draws -/
noncomputable def Dr (mu : Led) (a : Addr) (mu' : Led) : Prop := ∃ x y : Int, 0 ≤ x ∧ 0 ≤ y ∧ y < 2147483647 ∧ mu' = put mu a (.list [.int x, .int y])
theorem Dr.put {mu mu' : Led} {a : Addr} {x y : Int} (d : Dr mu a mu') (hx : 0 ≤ x) (hy : 0 ≤ y) (hz : y < 2147483647) : Dr mu a (Mine.put mu' a (.list [.int x, .int y])) := by
  obtain ⟨x', y', _, _, _, rfl⟩ := d
  exact ⟨x, y, hx, hy, hz, put_same⟩

section
variable {C : Cfg} {n : Nat} {env : Env} {m : Mp} {mu : Led}
theorem lsource_ok {f : Addr} {ns : List Int} {P : AV → Led → Prop} (X : LawK C.K) (hl : ns.length ≤ 1000) (F : FnIs C.K f "_law_source" "_law_source" (stm prg 66)) (hP : ∀ a mu', mu a = none → Dr mu a mu' → P (.val (.ref a)) mu') :
    Code' C (n + 1) (.ref f) [rowAV ns] mu P := by
  refine code_fn ["script"] F rfl ?hb ?hk ?hn ?hc rfl rfl rfl ?body
  case hb => intro vs h pm cdv ct; obtain ⟨v, rfl⟩ := len1 h; rfl
  case hk => decide
  case hn => decide
  case hc => decide
  case body =>
    intro L cdv
    refine X_cons ?_
    refine X_set (.inl rfl) ?_
    refine T.mono (P := fun y mu' => ∃ c : Int, y = .int c ∧ mu' = mu) ?_ ?_
    · refine T_ifexp ?_
      refine TB_cmp ?_
      refine T_callBn X.b.len rfl rfl ?_
      walk_at "mine wk"
      refine F_len (by rw [List.length_map]; omega) ?_
      walk_at "mine wk"
      split
      · rename_i c
        walk_at "mine wk"
        have c : ns.length > 0 := by simpa using c
        refine O_item (by decide) (by rw [List.length_map]; omega) (by rw [List.length_map]; omega) fun y e => ?_
        rw [ints_get e]
        exact ⟨_, rfl, rfl⟩
      · walk_at "mine wk"
        exact ⟨_, rfl, rfl⟩
    rintro y mu' ⟨c, rfl, rfl⟩
    refine X_cons (X_set (.inl rfl) ?_)
    refine T_callBn X.b.abs rfl rfl ?_
    refine TL_cons ?_
    refine T_callTn X.b.int rfl rfl ?_
    walk_at "mine wk"
    refine F_int ?_
    walk_at "mine wk"
    refine F_abs ?_
    refine X_cons (X_set (.inl rfl) ?_)
    refine T_bin (T_bin ?_)
    refine T_callTn X.b.int rfl rfl ?_
    walk_at "mine wk"
    refine F_int ?_
    walk_at "mine wk"
    refine O_mod (by decide) ?_
    walk_at "mine wk"
    refine T_callTn X.b.int rfl rfl ?_
    walk_at "mine wk"
    refine O_lt ?_
    walk_at "mine wk"
    refine F_intB ?_
    refine O_mul (.inl (by decide)) ?_
    walk_at "mine wk"
    refine X_for (.inl rfl) ?_
    refine T_slice_upto rfl ?_
    walk_at "mine wk"
    refine ⟨_, _, .inl rfl, rfl, by decide, by rw [List.length_map]; omega, ?_⟩
    refine ⟨_, Iter.list _, fun i m' mu2 => mu2 = mu' ∧ ∃ y : Int, 0 ≤ y ∧ y < 2147483647 ∧ m' = [(Str.ofString "mixed", .int y), (Str.ofString "size", .int (c.natAbs : Nat)), (Str.ofString "cell", .int c), (Str.ofString "script", rowAV ns)], ⟨rfl, _, ?_, ?_, rfl⟩, ?_, ?_⟩
    · split <;> omega
    · split <;> omega
    · rintro i m' mu2 y hi ⟨rfl, z, z0, z1, rfl⟩
      rw [List.getElem?_take] at hi
      split at hi
      · have e := ints_get hi
        subst e
        refine X_cons (X_set (.inl rfl) ?_)
        refine T_bin ?_
        refine T_callTn X.b.int rfl rfl ?_
        walk_at "mine wk"
        refine O_mul (.inr (by decide)) ?_
        refine T_callBn X.b.abs rfl rfl ?_
        refine TL_cons ?_
        refine T_callTn X.b.int rfl rfl ?_
        walk_at "mine wk"
        refine F_int ?_
        walk_at "mine wk"
        refine F_abs ?_
        walk_at "mine wk"
        refine F_int ?_
        walk_at "mine wk"
        refine O_mod (by decide) ?_
        walk_at "mine wk"
        exact ⟨rfl, _, by walk_at "mine le", rfl, _, by omega, by omega, rfl⟩
      · cases hi
    · rintro m' mu2 ⟨rfl, y, y0, y1, rfl⟩
      refine X_cons (X_ret ?_)
      refine T_listM ?_
      refine TL_cons ?_
      walk_at "mine wk"
      refine T_callTn X.b.int rfl rfl ?_
      walk_at "mine wk"
      refine O_pow (by decide) (by decide) (by decide) ?_
      refine O_ge ?_
      walk_at "mine wk"
      refine F_intB ?_
      refine O_mul (.inr (by split <;> decide)) ?_
      walk_at "mine wk"
      refine ⟨by simp, fun a ha => ?_⟩
      refine hP a _ ha ⟨_, y, ?_, y0, y1, rfl⟩
      split <;> omega
theorem ldraw_ok {f a : Addr} {many : Int} {mu0 : Led} {P : AV → Led → Prop} (X : LawK C.K) (D : Dr mu0 a mu) (h1 : 1 ≤ many) (h2 : many ≤ 1000) (F : FnIs C.K f "_law_draw" "_law_draw" (stm prg 67))
    (hP : ∀ mu' r, Dr mu0 a mu' → 0 ≤ r → r < many → P (.int r) mu') : Code' C (n + 1) (.ref f) [.val (.ref a), .int many] mu P := by
  refine code_fn ["source", "many"] F rfl ?hb ?hk ?hn ?hc rfl rfl rfl ?body
  case hb => intro vs h pm cdv ct; obtain ⟨v, w, rfl⟩ := len2 h; rfl
  case hk => decide
  case hn => decide
  case hc => decide
  case body =>
    intro L cdv
    have DD := D
    obtain ⟨x, y, x0, y0, y1, e⟩ := D
    have ea : mu a = some (.list [.int x, .int y]) := by rw [e, put_get]
    refine X_cons ?_
    walk_at "mine wk"
    refine O_item_ref ea (by decide) (by simp) (by simp) fun z ez => ?_
    cases ez
    walk_at "mine wk"
    split
    · walk_at "mine wk"
      refine T_callTn X.b.int rfl rfl ?_
      walk_at "mine wk"
      refine O_item_ref ea (by decide) (by simp) (by simp) fun z ez => ?_
      cases ez
      walk_at "mine wk"
      refine F_int ?_
      walk_at "mine wk"
      refine O_mod (by omega) ?_
      refine X_cons (X_assign ?_)
      walk_at "mine wk"
      refine O_item_ref ea (by decide) (by simp) (by simp) fun z ez => ?_
      cases ez
      walk_at "mine wk"
      refine O_fdiv (by omega) (by omega) ?_
      refine A_one (A_item ?_)
      walk_at "mine wk"
      refine ⟨a, _, _, rfl, rfl, ea, by decide, by simp, by simp, ?_⟩
      walk_at "mine wk"
      exact hP _ _ (DD.put (Int.ediv_nonneg x0 (by omega)) y0 y1) (Int.emod_nonneg _ (by omega)) (Int.emod_lt_of_pos _ (by omega))
    · walk_at "mine wk"
      refine X_assign ?_
      walk_at "mine wk"
      refine T_callTn X.b.int rfl rfl ?_
      walk_at "mine wk"
      refine O_item_ref ea (by decide) (by simp) (by simp) fun z ez => ?_
      cases ez
      walk_at "mine wk"
      refine O_mul (.inr (by decide)) ?_
      walk_at "mine wk"
      refine F_int ?_
      walk_at "mine wk"
      refine O_mod (by decide) ?_
      refine A_one (A_item ?_)
      walk_at "mine wk"
      refine ⟨a, _, _, rfl, rfl, ea, by decide, by simp, by simp, ?_⟩
      have D2 : Dr mu0 a (put mu a (.list [.int x, .int ((y * 48271 + 11) % 2147483647)])) := DD.put x0 (by omega) (by omega)
      have y2 : 0 ≤ (y * 48271 + 11) % 2147483647 := by omega
      have y3 : (y * 48271 + 11) % 2147483647 < 2147483647 := by omega
      revert D2 y2 y3
      show Dr mu0 a (put mu a (.list [.int x, .int ((y * 48271 + 11) % 2147483647)])) → _ → _ → TX C n _ _ _ (put mu a (.list [.int x, .int ((y * 48271 + 11) % 2147483647)])) _
      generalize (y * 48271 + 11) % 2147483647 = y'
      intro D2 y2 y3
      have eb : put mu a (.list [.int x, .int y']) a = some (.list [.int x, .int y']) := put_get
      refine X_cons (X_ret ?_)
      walk_at "mine wk"
      refine T_callTn X.b.int rfl rfl ?_
      walk_at "mine wk"
      refine T_callTn X.b.int rfl rfl ?_
      walk_at "mine wk"
      refine O_item_ref eb (by decide) (by simp) (by simp) fun z ez => ?_
      cases ez
      walk_at "mine wk"
      refine O_item_ref eb (by decide) (by simp) (by simp) fun z ez => ?_
      cases ez
      refine O_mul (.inr (by omega)) ?_
      walk_at "mine wk"
      refine F_int ?_
      walk_at "mine wk"
      refine O_mod (by decide) ?_
      walk_at "mine wk"
      refine O_fdiv (by decide) (by decide) ?_
      walk_at "mine wk"
      refine F_int ?_
      walk_at "mine wk"
      refine O_mod (by omega) ?_
      exact hP _ _ D2 (Int.emod_nonneg _ (by omega)) (Int.emod_lt_of_pos _ (by omega))
end

/-! ### P11 -/
/-- rows of samples -/
structure Pix (R : List (List Int)) (w h : Nat) : Prop where
  wf : Wf R w h
  px : ∀ r ∈ R, ∀ c ∈ r, 0 ≤ c ∧ c ≤ 255
noncomputable def PxRow (w : Nat) (r : List Int) : Prop := r.length = w ∧ ∀ c ∈ r, 0 ≤ c ∧ c ≤ 255

section
variable {C : Cfg} {n : Nat} {env : Env} {m : Mp} {mu : Led}
theorem lrows_ok {f a : Addr} {w h : Nat} {mu0 : Led} {P : AV → Led → Prop} (X : LawK C.K) (D : Dr mu0 a mu) (w0 : 0 < w) (h0 : 0 < h) (wz : w ≤ 100) (hz : h ≤ 100) (F : FnIs C.K f "_law_rows" "_law_rows" (stm prg 68))
    (hP : ∀ mu' R, Dr mu0 a mu' → Pix R w h → P (rowsAV R) mu') : Code' C (n + 2) (.ref f) [.val (.ref a), .int w, .int h] mu P := by
  refine code_fn ["source", "width", "height"] F rfl ?hb ?hk ?hn ?hc rfl rfl rfl ?body
  case hb => intro vs h pm cdv ct; obtain ⟨v, w, u, rfl⟩ := len3 h; rfl
  case hk => decide
  case hn => decide
  case hc => decide
  case body =>
    intro L cdv
    have fin : ∀ acc mu', acc.length = h → (∃ R : List (List Int), acc = R.map rowAV ∧ (∀ r ∈ R, PxRow w r) ∧ Dr mu0 a mu') → P (.list acc) mu' := by
      rintro acc mu' ha ⟨R, rfl, hR, D⟩
      exact hP mu' R D ⟨⟨by simpa using ha, fun r hr => (hR r hr).1, w0, h0, wz, hz⟩, fun r hr => (hR r hr).2⟩
    refine X_cons ?_
    refine X_set (.inl rfl) ?_
    refine T_callG X.draw rfl fun f1 F1 => ?_
    walk_at "mine wk"
    refine (ldraw_ok X D (by decide) (by decide) F1 fun mu1 way D1 r0 r1 => ?_).call
    refine X_cons ?_
    walk_at "mine wk"
    split
    · refine X_cons (X_ret ?_)
      refine T_compA [(Str.ofString "source", .val (.ref a)), (Str.ofString "width", .int w)] rfl ?_
      refine T_callTn X.b.range rfl rfl ?_
      walk_at "mine wk"
      refine F_range1 ?_
      refine ⟨_, Iter.range1 (by omega) (by omega), by simp; omega, fun j acc mu2 => ∃ R : List (List Int), acc = R.map rowAV ∧ (∀ r ∈ R, PxRow w r) ∧ Dr mu0 a mu2, ⟨[], rfl, (by simp), D1⟩, ?_, ?_⟩
      · rintro L2 j acc mu2 y hj - ⟨R, rfl, hR, D2⟩
        refine T_compA [(Str.ofString "source", .val (.ref a))] rfl ?_
        refine T_callTn X.b.range rfl rfl ?_
        walk_at "mine wk"
        refine F_range1 ?_
        refine ⟨_, Iter.range1 (by omega) (by omega), by simp; omega, fun j acc mu2 => ∃ r : List Int, acc = r.map .int ∧ (∀ c ∈ r, 0 ≤ c ∧ c ≤ 255) ∧ Dr mu0 a mu2, ⟨[], rfl, (by simp), D2⟩, ?_, ?_⟩
        · rintro L3 k acc mu3 z hk - ⟨r, rfl, hr, D3⟩
          walk_at "mine wk"
          refine T_callG X.draw rfl fun f1 F1 => ?_
          walk_at "mine wk"
          refine (ldraw_ok X D3 (by decide) (by decide) F1 fun mu1 c D4 r0 r1 => ?_).call
          walk_at "mine wk"
          refine O_mul (.inr (by decide)) ?_
          refine ⟨r ++ [c * 255], by simp, fun q hq => ?_, D4⟩
          rcases List.mem_append.mp hq with hq | hq
          · exact hr q hq
          · rw [List.mem_singleton.mp hq]; omega
        · rintro acc mu3 hacc ⟨r, rfl, hr, D3⟩
          refine ⟨R ++ [r], by simp, fun q hq => ?_, D3⟩
          rcases List.mem_append.mp hq with hq | hq
          · exact hR q hq
          · rw [List.mem_singleton.mp hq]; exact ⟨by simpa using hacc, hr⟩
      · rintro acc mu2 hacc J
        exact fin acc mu2 (by simpa using hacc) J
    · walk_at "mine wk"
      refine T_compA [(Str.ofString "source", .val (.ref a)), (Str.ofString "width", .int w)] rfl ?_
      refine T_callTn X.b.range rfl rfl ?_
      walk_at "mine wk"
      refine F_range1 ?_
      refine ⟨_, Iter.range1 (by omega) (by omega), by simp; omega, fun j acc mu2 => ∃ R : List (List Int), acc = R.map rowAV ∧ (∀ r ∈ R, PxRow w r) ∧ Dr mu0 a mu2, ⟨[], rfl, (by simp), D1⟩, ?_, ?_⟩
      · rintro L2 j acc mu2 y hj - ⟨R, rfl, hR, D2⟩
        refine T_compA [(Str.ofString "source", .val (.ref a))] rfl ?_
        refine T_callTn X.b.range rfl rfl ?_
        walk_at "mine wk"
        refine F_range1 ?_
        refine ⟨_, Iter.range1 (by omega) (by omega), by simp; omega, fun j acc mu2 => ∃ r : List Int, acc = r.map .int ∧ (∀ c ∈ r, 0 ≤ c ∧ c ≤ 255) ∧ Dr mu0 a mu2, ⟨[], rfl, (by simp), D2⟩, ?_, ?_⟩
        · rintro L3 k acc mu3 z hk - ⟨r, rfl, hr, D3⟩
          refine T_callG X.draw rfl fun f1 F1 => ?_
          walk_at "mine wk"
          refine (ldraw_ok X D3 (by decide) (by decide) F1 fun mu1 c D4 r0 r1 => ?_).call
          refine ⟨r ++ [c], by simp, fun q hq => ?_, D4⟩
          rcases List.mem_append.mp hq with hq | hq
          · exact hr q hq
          · rw [List.mem_singleton.mp hq]; omega
        · rintro acc mu3 hacc ⟨r, rfl, hr, D3⟩
          refine ⟨R ++ [r], by simp, fun q hq => ?_, D3⟩
          rcases List.mem_append.mp hq with hq | hq
          · exact hR q hq
          · rw [List.mem_singleton.mp hq]; exact ⟨by simpa using hacc, hr⟩
      · rintro acc mu2 hacc J
        exact fin acc mu2 (by simpa using hacc) J

theorem lsums_ok {f : Addr} {a b c d : Int} {P : AV → Led → Prop} (F : FnIs C.K f "_law_sums" "_law_sums" (stm prg 69)) (h : P (rowAV (sums4 a b c d)) mu) : Code' C (n + 1) (.ref f) [rowAV [a, b, c, d]] mu P := by
  refine code_fn ["four"] F rfl ?hb ?hk ?hn ?hc rfl rfl rfl ?body
  case hb => intro vs h pm cdv ct; obtain ⟨v, rfl⟩ := len1 h; rfl
  case hk => decide
  case hn => decide
  case hc => decide
  case body =>
    intro L cdv
    refine X_cons (X_assign ?_)
    walk_at "mine wk"
    refine A_one (A_tuple [.int a, .int b, .int c, .int d] (.inl rfl) rfl rfl ?_)
    refine AL_cons (A_name (.inl rfl) ?_)
    refine AL_cons (A_name (.inl rfl) ?_)
    refine AL_cons (A_name (.inl rfl) ?_)
    refine AL_cons (A_name (.inl rfl) ?_)
    refine AL_nil ?_
    walk_at "mine wk"
    refine T_list ?_
    walk_at "mine wk"
    exact ⟨by simp, h⟩
noncomputable def partI (v d : Int) : Int := if v > 0 then (2 * (v.natAbs : Int) + d) / (2 * d) else -((2 * (v.natAbs : Int) + d) / (2 * d))
theorem parted_ok {f : Addr} {v d : Int} {P : AV → Led → Prop} (X : LawK C.K) (d0 : 0 < d) (d1 : d < 1000) (F : FnIs C.K f "_law_parted" "_law_parted" (stm prg 70)) (h : P (.int (partI v d)) mu) : Code' C (n + 1) (.ref f) [.int v, .int d] mu P := by
  refine code_fn ["number", "divisor"] F rfl ?hb ?hk ?hn ?hc rfl rfl rfl ?body
  case hb => intro vs h pm cdv ct; obtain ⟨v, w, rfl⟩ := len2 h; rfl
  case hk => decide
  case hn => decide
  case hc => decide
  case body =>
    intro L cdv
    refine X_cons ?_
    refine X_set (.inl rfl) ?_
    walk_at "mine wk"
    refine T_callBn X.b.abs rfl rfl ?_
    walk_at "mine wk"
    refine F_abs ?_
    refine O_mul (.inl (by decide)) ?_
    walk_at "mine wk"
    refine O_mul (.inl (by decide)) ?_
    refine O_fdiv (by omega) (by omega) ?_
    unfold partI at h
    walk_at "mine wk"
    split
    · rename_i c
      rw [if_pos (by simpa using c)] at h
      walk_at "mine wk"
      exact h
    · rename_i c
      rw [if_neg (by simpa using c)] at h
      walk_at "mine wk"
      exact h

/-! ### the law's own coefficients -/
theorem four_getD (f : Nat → Int) (v : List Int) (h : v.length = 4) : (List.range 4).map (fun k => f k) = [f 0, f 1, f 2, f 3] := rfl
theorem part_two (v d : Int) (hd : 0 < d) : partI v (2 * d) = quantI d (v * 4) := by
  unfold partI quantI
  have e : (2 * (((v * 4).natAbs : Nat) : Int) + d * 8) / (2 * (d * 8)) = (2 * (v.natAbs : Int) + 2 * d) / (2 * (2 * d)) := by
    rw [show (2 * (((v * 4).natAbs : Nat) : Int) + d * 8) = (2 * (v.natAbs : Int) + 2 * d) * 4 by omega, show 2 * (d * 8) = (2 * (2 * d)) * 4 by omega, Int.mul_ediv_mul_of_pos_left _ _ (by decide)]
  rw [e]
  by_cases c : v > 0
  · rw [if_pos c, if_neg (by omega)]
  · rw [if_neg c]
    by_cases c2 : v * 4 < 0
    · rw [if_pos c2]
    · rw [if_neg c2]
      have : v = 0 := by omega
      subst this
      have : (2 * (((0 : Int).natAbs : Nat) : Int) + 2 * d) / (2 * (2 * d)) = 0 := Int.ediv_eq_zero_of_lt (by simp; omega) (by simp; omega)
      rw [this]; rfl
theorem part_one (v d : Int) (hd : 0 < d) : partI v d = quantI d (v * 8) := by
  unfold partI quantI
  have e : (2 * (((v * 8).natAbs : Nat) : Int) + d * 8) / (2 * (d * 8)) = (2 * (v.natAbs : Int) + d) / (2 * d) := by
    rw [show (2 * (((v * 8).natAbs : Nat) : Int) + d * 8) = (2 * (v.natAbs : Int) + d) * 8 by omega, show 2 * (d * 8) = (2 * d) * 8 by omega, Int.mul_ediv_mul_of_pos_left _ _ (by decide)]
  rw [e]
  by_cases c : v > 0
  · rw [if_pos c, if_neg (by omega)]
  · rw [if_neg c]
    by_cases c2 : v * 8 < 0
    · rw [if_pos c2]
    · rw [if_neg c2]
      have : v = 0 := by omega
      subst this
      have : (2 * (((0 : Int).natAbs : Nat) : Int) + d) / (2 * d) = 0 := Int.ediv_eq_zero_of_lt (by simp; omega) (by simp; omega)
      rw [this]; rfl
theorem kept_min {p s : Nat} (h : 0 < s) : keptI (p : Int) s = min (p : Int) ((s : Int) - 1) := by
  unfold keptI
  split
  · omega
  · split <;> omega
end

/-! ### P12 -/
theorem mapMul_getD (l : List Int) (q : Int) (k : Nat) : (l.map (· * q)).getD k 0 = l.getD k 0 * q := by
  simp only [List.getD, List.getElem?_map]
  cases l[k]? <;> simp

section
variable {C : Cfg} {n : Nat} {env : Env} {m : Mp} {mu : Led}
theorem coded_ok {f : Addr} {R : List (List Int)} {w h x y s : Nat} {ds : List Int} {P : AV → Led → Prop} (X : LawK C.K) (W : Wf R w h) (hs : Side s) (D : DivOk ds (s * s)) (hx : x ≤ 100) (hy : y ≤ 100) (F : FnIs C.K f "_law_coded" "_law_coded" (stm prg 71))
    (hP : P (rowAV (coef s ds R w h y x)) mu) : Code' C (n + 2) (.ref f) [rowsAV R, .int x, .int y, .int s, .tup (ds.map .int)] mu P := by
  refine code_fn ["apart", "x", "y", "side", "divisors"] F rfl ?hb ?hk ?hn ?hc rfl rfl rfl ?body
  case hb => intro vs h pm cdv ct; obtain ⟨v, w, u, t, s, rfl⟩ := len5 h; rfl
  case hk => decide
  case hn => decide
  case hc => decide
  case body =>
    intro L cdv
    have hs2 : s ≤ 2 := by rcases hs with rfl | rfl <;> decide
    have hs1 : 1 ≤ s := by rcases hs with rfl | rfl <;> decide
    have hxs : x * s ≤ 200 := Nat.le_trans (Nat.mul_le_mul hx hs2) (by decide)
    have hys : y * s ≤ 200 := Nat.le_trans (Nat.mul_le_mul hy hs2) (by decide)
    have w0 := W.w0
    have h0 := W.h0
    have wz := W.wz
    have hz := W.hz
    have hr := W.rows
    have hr0 : (R.getD 0 []).length = w := W.row h0
    refine X_cons (X_assign ?_)
    refine T_tuple ?_
    refine TL_cons ?_
    refine T_callBn X.b.len rfl rfl ?_
    walk_at "mine wk"
    refine F_len (by rw [List.length_map]; omega) ?_
    walk_at "mine wk"
    refine T_callBn X.b.len rfl rfl ?_
    walk_at "mine wk"
    refine O_row (k := 0) W h0 ?_
    walk_at "mine wk"
    refine F_len (by rw [List.length_map]; omega) ?_
    rw [List.length_map, List.length_map, hr, hr0]
    walk_at "mine wk"
    refine ⟨by simp, ?_⟩
    refine A_one (A_tuple [.int h, .int w] (.inr rfl) rfl rfl ?_)
    refine AL_cons (A_name (.inl rfl) ?_)
    refine AL_cons (A_name (.inr ⟨rfl, rfl⟩) ?_)
    refine AL_nil ?_
    refine X_cons (X_set (.inl rfl) ?_)
    refine T_list ?_
    walk_at "mine wk"
    refine ⟨by decide, ?_⟩
    refine X_cons ?_
    let row := fun i : Nat => (List.range s).map fun j : Nat => cellAt R (keptI ((y * s + i : Nat) : Int) h) (keptI ((x * s + j : Nat) : Int) w)
    let m0 : Mp := [(Str.ofString "wide", .int w), (Str.ofString "high", .int h), (Str.ofString "apart", rowsAV R), (Str.ofString "x", .int x), (Str.ofString "y", .int y), (Str.ofString "side", .int s), (Str.ofString "divisors", .tup (ds.map .int))]
    refine X_weak (m' := (Str.ofString "some", rowAV (((List.range 0).map row).flatten)) :: m0) (by walk_at "mine le") ?_
    refine X_for (.inl rfl) ?_
    refine T_callTn X.b.range rfl rfl ?_
    walk_at "mine wk"
    refine F_range1 ?_
    refine ⟨_, Iter.range1 (by omega) (by omega), fun i m' mu' => m' = (Str.ofString "some", rowAV (((List.range i).map row).flatten)) :: m0 ∧ mu' = mu, ⟨rfl, rfl⟩, ?_, ?_⟩
    · rintro i m' mu' y' hi ⟨rfl, rfl⟩
      obtain ⟨hlt, rfl⟩ := range_get hi
      have hlt : i < s := by omega
      refine X_cons (X_set (.inr ⟨rfl, rfl⟩) ?_)
      walk_at "mine wk"
      refine T_callBn X.b.min rfl rfl ?_
      walk_at "mine wk"
      refine O_mul (.inl (by omega)) ?_
      walk_at "mine wk"
      refine F_min2 ?_
      rw [natmul, show ((y * s : Nat) : Int) + (i : Int) = ((y * s + i : Nat) : Int) by omega, ← kept_min h0]
      have ky := keptI_in (p := ((y * s + i : Nat) : Int)) h0
      refine O_item ky.1 (by rw [List.length_map]; omega) (by rw [List.length_map]; omega) fun z e => ?_
      rw [rows_get e]
      have hrow := W.row (k := (keptI ((y * s + i : Nat) : Int) h).toNat) (by omega)
      refine X_cons (X_set (.inl rfl) ?_)
      walk_at "mine wk"
      refine T_compA [(Str.ofString "line", rowAV (R.getD (keptI ((y * s + i : Nat) : Int) h).toNat [])), (Str.ofString "x", .int x), (Str.ofString "side", .int s), (Str.ofString "wide", .int w)] rfl ?_
      refine T_callTn X.b.range rfl rfl ?_
      walk_at "mine wk"
      refine F_range1 ?_
      refine ⟨_, Iter.range1 (by omega) (by omega), by simp; omega, fun j acc mu2 => acc = ((List.range j).map fun j : Nat => AV.int (cellAt R (keptI ((y * s + i : Nat) : Int) h) (keptI ((x * s + j : Nat) : Int) w))) ∧ mu2 = mu', ⟨rfl, rfl⟩, ?_, ?_⟩
      · rintro L2 j acc mu' y' hj - ⟨rfl, rfl⟩
        obtain ⟨hjt, rfl⟩ := range_get hj
        walk_at "mine wk"
        refine T_callBn X.b.min rfl rfl ?_
        walk_at "mine wk"
        refine O_mul (.inl (by omega)) ?_
        walk_at "mine wk"
        refine F_min2 ?_
        rw [natmul, show ((x * s : Nat) : Int) + (j : Int) = ((x * s + j : Nat) : Int) by omega, ← kept_min w0]
        have kx := keptI_in (p := ((x * s + j : Nat) : Int)) w0
        refine O_item kx.1 (by rw [List.length_map]; omega) (by rw [List.length_map]; omega) fun z e => ?_
        rw [ints_get e]
        refine ⟨?_, rfl⟩
        rw [range_snoc]
        rfl
      · rintro acc mu' hacc ⟨rfl, rfl⟩
        have fl := flat_len row s (fun i => by simp [row]) i
        have : i * s ≤ 4 := Nat.mul_le_mul (by omega : i ≤ 2) hs2
        refine O_cat (by rw [List.length_map, fl]; simp; omega) ?_
        walk_at "mine wk"
        refine ⟨rfl, (Str.ofString "some", rowAV (((List.range (i + 1)).map row).flatten)) :: m0, ?_, rfl, rfl⟩
        refine Le.cons ?_ (by walk_at "mine le")
        rw [flat_take, show rowAV ((List.map row (List.range i)).flatten ++ row i) = .list (((List.map row (List.range i)).flatten).map .int ++ (row i).map .int) by rw [rowAV, List.map_append],
          List.length_map, List.length_range, Int.toNat_natCast, show (row i).map AV.int = (List.range s).map fun j => AV.int (cellAt R (keptI ((y * s + i : Nat) : Int) h) (keptI ((x * s + j : Nat) : Int) w)) by rw [List.map_map]; rfl]
        rfl
    · rintro m' mu' ⟨rfl, rfl⟩
      have hb : (((List.range s).map row).flatten) = blockOf R w h x y s := rfl
      rw [List.length_map, List.length_range, Int.toNat_natCast, hb]
      have bl := block_len R w h x y s
      unfold coef at hP
      generalize blockOf R w h x y s = b at hP bl
      refine X_cons ?_
      walk_at "mine wk"
      rcases hs with rfl | rfl
      · rw [if_neg (by decide)]
        obtain ⟨b1, b2, b3, b4, rfl⟩ := len4 bl
        walk_at "mine wk"
        refine T_callG X.sums rfl fun f1 F1 => ?_
        walk_at "mine wk"
        refine (lsums_ok F1 ?_).call
        refine X_cons (X_ret ?_)
        refine T_compA [(Str.ofString "sums", rowAV (sums4 b1 b2 b3 b4)), (Str.ofString "divisors", .tup (ds.map .int))] rfl ?_
        refine T_callTn X.b.range rfl rfl ?_
        walk_at "mine wk"
        refine F_range1 ?_
        refine ⟨_, Iter.range1 (by decide) (by decide), by decide, fun j acc mu2 => acc = ((List.range j).map fun k : Nat => AV.int (quantI (ds.getD k 0) (((sums4 b1 b2 b3 b4).map (· * 4)).getD k 0))) ∧ mu2 = mu', ⟨rfl, rfl⟩, ?_, ?_⟩
        · rintro L2 j acc mu' y' hj - ⟨rfl, rfl⟩
          obtain ⟨hjt, rfl⟩ := range_get hj
          have hjt : j < 4 := hjt
          have hd := D.get (i := j) hjt
          refine T_callG X.parted rfl fun f1 F1 => ?_
          walk_at "mine wk"
          refine O_cell (by simp only [sums4, List.length_cons, List.length_nil]; omega) (by simp [sums4]) ?_
          walk_at "mine wk"
          refine O_item_tup (by omega) (by rw [List.length_map, D.1]; omega) (by rw [List.length_map, D.1]; decide) fun z e => ?_
          rw [ints_get e, Int.toNat_natCast]
          refine O_mul (.inl (by decide)) ?_
          walk_at "mine wk"
          refine (parted_ok X (by omega) (by omega) F1 ?_).call
          refine ⟨?_, rfl⟩
          rw [range_snoc, part_two _ _ (by omega), mapMul_getD]
        · rintro acc mu' hacc ⟨rfl, rfl⟩
          unfold quant at hP
          rw [rowAV, List.map_map] at hP
          exact hP
      · rw [if_pos (by decide)]
        obtain ⟨b1, rfl⟩ := len1 bl
        have hd := D.get (i := 0) (by decide)
        refine X_cons (X_ret (T_list ?_))
        refine TL_cons ?_
        refine T_callG X.parted rfl fun f1 F1 => ?_
        walk_at "mine wk"
        refine O_item (by decide) (by simp) (by simp) fun z e => ?_
        cases e
        walk_at "mine wk"
        refine O_item_tup (by decide) (by rw [List.length_map, D.1]; decide) (by rw [List.length_map, D.1]; decide) fun z e => ?_
        rw [ints_get e]
        walk_at "mine wk"
        refine (parted_ok X hd.1 (by have := hd.2; show ds.getD 0 0 < 1000; omega) F1 ?_).call
        walk_at "mine wk"
        refine ⟨by simp, ?_⟩
        rw [part_one _ _ hd.1]
        exact hP
theorem meant_ok {f : Addr} {s : Nat} {q ds : List Int} {P : AV → Led → Prop} (X : LawK C.K) (hs : Side s) (hq : q.length = s * s) (D : DivOk ds (s * s)) (F : FnIs C.K f "_law_meant" "_law_meant" (stm prg 72))
    (hP : P (rowAV (inv s (dequant ds q))) mu) : Code' C (n + 2) (.ref f) [rowAV q, .int s, .tup (ds.map .int)] mu P := by
  refine code_fn ["coded", "side", "divisors"] F rfl ?hb ?hk ?hn ?hc rfl rfl rfl ?body
  case hb => intro vs h pm cdv ct; obtain ⟨v, w, u, rfl⟩ := len3 h; rfl
  case hk => decide
  case hn => decide
  case hc => decide
  case body =>
    intro L cdv
    refine X_cons ?_
    walk_at "mine wk"
    rcases hs with rfl | rfl
    · rw [if_neg (by decide)]
      obtain ⟨b1, b2, b3, b4, rfl⟩ := len4 hq
      walk_at "mine wk"
      refine T_compA [] rfl ?_
      refine T_callG X.sums rfl fun f1 F1 => ?_
      refine TL_cons ?_
      refine T_compA [(Str.ofString "coded", rowAV [b1, b2, b3, b4]), (Str.ofString "divisors", .tup (ds.map .int))] rfl ?_
      refine T_callTn X.b.range rfl rfl ?_
      walk_at "mine wk"
      refine F_range1 ?_
      refine ⟨_, Iter.range1 (by decide) (by decide), by decide, fun j acc mu' => acc = ((List.range j).map fun k : Nat => AV.int ([b1, b2, b3, b4].getD k 0 * ds.getD k 0)) ∧ mu' = mu, ⟨rfl, rfl⟩, ?_, ?_⟩
      · rintro L2 j acc mu' y' hj - ⟨rfl, rfl⟩
        obtain ⟨hjt, rfl⟩ := range_get hj
        have hjt : j < 4 := hjt
        have hd := D.get (i := j) hjt
        walk_at "mine wk"
        refine O_cell (by simp only [List.length_cons, List.length_nil]; omega) (by simp) ?_
        walk_at "mine wk"
        refine O_item_tup (by omega) (by rw [List.length_map, D.1]; omega) (by rw [List.length_map, D.1]; decide) fun z e => ?_
        rw [ints_get e, Int.toNat_natCast]
        refine O_mul (.inr (by omega)) ?_
        refine ⟨?_, rfl⟩
        rw [range_snoc]
      · rintro acc mu' hacc ⟨rfl, rfl⟩
        walk_at "mine wk"
        refine (lsums_ok (a := b1 * ds.getD 0 0) (b := b2 * ds.getD 1 0) (c := b3 * ds.getD 2 0) (d := b4 * ds.getD 3 0) F1 ?_).call
        generalize hS : sums4 (b1 * ds.getD 0 0) (b2 * ds.getD 1 0) (b3 * ds.getD 2 0) (b4 * ds.getD 3 0) = S
        have hl : S.length = 4 := by rw [← hS]; rfl
        refine ⟨_, Iter.list _, by simp [hl], fun j acc mu2 => acc = (S.take j).map (fun i => AV.int ((i + 1) / 2)) ∧ mu2 = mu', ⟨rfl, rfl⟩, ?_, ?_⟩
        · rintro L2 j acc mu' y hj - ⟨rfl, rfl⟩
          rw [List.getElem?_map] at hj
          cases e : S[j]? with
          | none => rw [e] at hj; cases hj
          | some i =>
            rw [e] at hj; cases hj
            walk_at "mine wk"
            refine O_fdiv (by decide) (by decide) ?_
            exact ⟨(take_snoc _ _ _ _ e).symm, rfl⟩
        · rintro acc mu' hacc ⟨rfl, rfl⟩
          rw [List.length_map, List.take_length, ← hS]
          exact hP
    · rw [if_pos (by decide)]
      obtain ⟨b1, rfl⟩ := len1 hq
      have hd := D.get (i := 0) (by decide)
      refine X_cons (X_ret (T_list ?_))
      walk_at "mine wk"
      refine O_item (by decide) (by simp) (by simp) fun z e => ?_
      cases e
      walk_at "mine wk"
      refine O_item_tup (by decide) (by rw [List.length_map, D.1]; decide) (by rw [List.length_map, D.1]; decide) fun z e => ?_
      rw [ints_get e]
      refine O_mul (.inr (by have := hd.2; have := hd.1; show (ds.getD 0 0).natAbs < _; omega)) ?_
      walk_at "mine wk"
      exact ⟨by simp, hP⟩
end

/-! ### P13 -/
theorem clamp_mm (z : Int) : max 0 (min 255 z) = clampI 255 z := by
  unfold clampI
  split
  · omega
  · split <;> omega
theorem pick_side {r : Int} {z : AV} (h0 : 0 ≤ r) (h1 : r < 3) (e : ([.int 2, .int 2, .int 1] : List AV)[r.toNat]? = some z) : ∃ s : Nat, Side s ∧ z = .int s := by
  have : r = 0 ∨ r = 1 ∨ r = 2 := by omega
  rcases this with rfl | rfl | rfl
  · cases e; exact ⟨2, .inl rfl, rfl⟩
  · cases e; exact ⟨2, .inl rfl, rfl⟩
  · cases e; exact ⟨1, .inr rfl, rfl⟩
theorem pick_many {r : Int} {z : AV} (h0 : 0 ≤ r) (h1 : r < 3) (e : ([.int 1, .int 6, .int 40] : List AV)[r.toNat]? = some z) : ∃ k : Int, 1 ≤ k ∧ k ≤ 40 ∧ z = .int k := by
  have : r = 0 ∨ r = 1 ∨ r = 2 := by omega
  rcases this with rfl | rfl | rfl
  · cases e; exact ⟨1, by decide, by decide, rfl⟩
  · cases e; exact ⟨6, by decide, by decide, rfl⟩
  · cases e; exact ⟨40, by decide, by decide, rfl⟩

section
variable {C : Cfg} {n : Nat} {env : Env} {m : Mp} {mu : Led}
set_option maxHeartbeats 4000000 in
theorem law_ok {f Cp Ct Co Cc Cf Cg : Addr} {ns : List Int} {P : AV → Led → Prop} (X : DiffK C.K Cp Ct Co Cc Cf Cg) (Y : LawK C.K) (hns : ns.length ≤ 1000) (F : FnIs C.K f "law" "law" (stm prg 73)) (hP : ∀ mu', P (.val (.bool true)) mu') :
    Code' C (n + 6) (.ref f) [rowAV ns] mu P := by
  refine code_fn ["script"] F rfl ?hb ?hk ?hn ?hc rfl rfl rfl ?body
  case hb => intro vs h pm cdv ct; obtain ⟨v, rfl⟩ := len1 h; rfl
  case hk => decide
  case hn => decide
  case hc => decide
  case body =>
    intro L cdv
    refine X_cons (X_set (.inr ⟨rfl, rfl⟩) ?_)
    refine T_callG Y.source rfl fun f1 F1 => ?_
    walk_at "mine wk"
    refine (lsource_ok Y hns F1 fun a mu1 ha D1 => ?_).call
    refine X_cons (X_assign ?_)
    refine T_tuple ?_
    refine TL_cons ?_
    refine (isSubC (T_sub ?_))
    refine T_list ?_
    walk_at "mine wk"
    refine ⟨by simp, ?_⟩
    refine T_callG Y.draw rfl fun f1 F1 => ?_
    walk_at "mine wk"
    refine (ldraw_ok Y D1 (by decide) (by decide) F1 fun mu1 r D1 r0 r1 => ?_).call
    refine O_item r0 (by simpa using r1) (by simp) fun z e => ?_
    obtain ⟨s, hs, rfl⟩ := pick_side r0 r1 e
    walk_at "mine wk"
    refine T_callG Y.draw rfl fun f1 F1 => ?_
    walk_at "mine wk"
    refine (ldraw_ok Y D1 (by decide) (by decide) F1 fun mu1 r2 D1 r20 r21 => ?_).call
    walk_at "mine wk"
    refine T_callG Y.draw rfl fun f1 F1 => ?_
    walk_at "mine wk"
    refine (ldraw_ok Y D1 (by decide) (by decide) F1 fun mu1 r3 D1 r30 r31 => ?_).call
    obtain ⟨w, hw⟩ : ∃ w : Nat, 1 + r2 = (w : Int) := ⟨(1 + r2).toNat, by omega⟩
    obtain ⟨h, hh⟩ : ∃ h : Nat, 1 + r3 = (h : Int) := ⟨(1 + r3).toNat, by omega⟩
    have w0 : 0 < w := by omega
    have h0 : 0 < h := by omega
    have w5 : w ≤ 5 := by omega
    have h4 : h ≤ 4 := by omega
    walk_at "mine wk"
    rw [hw, hh]
    refine ⟨by simp, ?_⟩
    refine A_one (A_tuple [.int s, .int w, .int h] (.inr rfl) rfl rfl ?_)
    refine AL_cons (A_name (.inl rfl) ?_)
    refine AL_cons (A_name (.inr ⟨rfl, rfl⟩) ?_)
    refine AL_cons (A_name (.inl rfl) ?_)
    refine AL_nil ?_
    refine X_cons (X_assign ?_)
    refine T_tuple ?_
    refine TL_cons ?_
    refine T_callG Y.rows rfl fun f1 F1 => ?_
    walk_at "mine wk"
    refine (lrows_ok Y D1 w0 h0 (by omega) (by omega) F1 fun mu1 R D1 pR => ?_).call
    refine TL_cons ?_
    refine T_callG Y.rows rfl fun f1 F1 => ?_
    walk_at "mine wk"
    refine (lrows_ok Y D1 w0 h0 (by omega) (by omega) F1 fun mu1 S D1 pS => ?_).call
    walk_at "mine wk"
    refine ⟨by simp, ?_⟩
    refine A_one (A_tuple [rowsAV R, rowsAV S] (.inr rfl) rfl rfl ?_)
    refine AL_cons (A_name (.inr ⟨rfl, rfl⟩) ?_)
    refine AL_cons (A_name (.inr ⟨rfl, rfl⟩) ?_)
    refine AL_nil ?_
    have hs2 : s ≤ 2 := by rcases hs with rfl | rfl <;> decide
    have hs1 : 1 ≤ s := by rcases hs with rfl | rfl <;> decide
    have hss : s * s ≤ 4 := Nat.mul_le_mul hs2 hs2
    refine X_cons (X_set (.inl rfl) ?_)
    refine T_callTn X.z.b.tuple rfl rfl ?_
    refine TL_cons ?_
    refine T_compA [(Str.ofString "source", .val (.ref a))] rfl ?_
    refine T_callTn X.z.b.range rfl rfl ?_
    walk_at "mine wk"
    refine O_mul (.inl (by omega)) ?_
    walk_at "mine wk"
    refine F_range1 ?_
    rw [natmul]
    refine ⟨_, Iter.range1 (by omega) (by omega), by simp; omega, fun j acc mu2 => ∃ ds : List Int, acc = ds.map .int ∧ (∀ d ∈ ds, 1 ≤ d ∧ d ≤ 40) ∧ Dr mu a mu2, ⟨[], rfl, (by simp), D1⟩, ?_, ?_⟩
    · rintro L2 j acc mu2 y hj - ⟨ds, rfl, hds, D2⟩
      walk_at "mine wk"
      refine T_callG Y.draw rfl fun f1 F1 => ?_
      walk_at "mine wk"
      refine T_list ?_
      walk_at "mine wk"
      refine ⟨by simp, ?_⟩
      refine T_callG Y.draw rfl fun f2 F2 => ?_
      walk_at "mine wk"
      refine (ldraw_ok Y D2 (by decide) (by decide) F2 fun mu1 r D1 r0 r1 => ?_).call
      refine O_item r0 (by simpa using r1) (by simp) fun z e => ?_
      obtain ⟨k, k0, k1, rfl⟩ := pick_many r0 r1 e
      walk_at "mine wk"
      refine (ldraw_ok Y D1 k0 (by omega) F1 fun mu1 r D1 r0 r1 => ?_).call
      walk_at "mine wk"
      refine ⟨ds ++ [1 + r], by simp, fun q hq => ?_, D1⟩
      rcases List.mem_append.mp hq with hq | hq
      · exact hds q hq
      · rw [List.mem_singleton.mp hq]; omega
    rintro acc mu1 hacc ⟨ds, rfl, hds, D1⟩
    have D : DivOk ds (s * s) := ⟨by rw [List.length_map, List.length_map, List.length_range, Int.toNat_natCast] at hacc; exact hacc, hds⟩
    walk_at "mine wk"
    refine F_tuple (by rw [List.length_map, D.1]; omega) ?_
    clear hacc hds D1
    have planes : ∀ {env : Env} {m : Mp}, True := fun {_ _} => trivial
    refine X_cons ?_
    refine X_swap2 rfl rfl ?_
    refine T_tuple ?_
    refine TL_cons ?_
    refine T_callC X.p.cls rfl ?_
    walk_at "mine wk"
    refine T_compA [] rfl ?_
    walk_at "mine wk"
    have hR := pR.wf.rows
    have hS := pS.wf.rows
    have rR := pR.wf.cols
    have rS := pS.wf.cols
    refine ⟨_, Iter.list _, by rw [List.length_map]; omega, fun j acc mu2 => acc = (R.take j).map rowAV ∧ mu2 = mu1, ⟨rfl, rfl⟩, ?_, ?_⟩
    · rintro L2 j acc mu2 y hj - ⟨rfl, rfl⟩
      rw [List.getElem?_map] at hj
      cases e : R[j]? with
      | none => rw [e] at hj; cases hj
      | some r =>
        rw [e] at hj; cases hj
        have := rR r (List.mem_of_getElem? e)
        refine T_callTn X.z.b.list rfl rfl ?_
        walk_at "mine wk"
        refine F_list (by rw [List.length_map]; omega) ?_
        exact ⟨(take_snoc _ _ _ _ e).symm, rfl⟩
    rintro acc mu2 hacc ⟨rfl, rfl⟩
    rw [List.length_map, List.take_length]
    clear hacc
    walk_at "mine wk"
    refine (plane_ok X.p ?_).call
    refine TL_cons ?_
    refine T_callC X.p.cls rfl ?_
    walk_at "mine wk"
    refine T_compA [] rfl ?_
    walk_at "mine wk"
    refine ⟨_, Iter.list _, by rw [List.length_map]; omega, fun j acc mu3 => acc = (S.take j).map rowAV ∧ mu3 = mu2, ⟨rfl, rfl⟩, ?_, ?_⟩
    · rintro L2 j acc mu2 y hj - ⟨rfl, rfl⟩
      rw [List.getElem?_map] at hj
      cases e : S[j]? with
      | none => rw [e] at hj; cases hj
      | some r =>
        rw [e] at hj; cases hj
        have := rS r (List.mem_of_getElem? e)
        refine T_callTn X.z.b.list rfl rfl ?_
        walk_at "mine wk"
        refine F_list (by rw [List.length_map]; omega) ?_
        exact ⟨(take_snoc _ _ _ _ e).symm, rfl⟩
    rintro acc mu2 hacc ⟨rfl, rfl⟩
    rw [List.length_map, List.take_length]
    clear hacc
    walk_at "mine wk"
    refine (plane_ok X.p ?_).call
    walk_at "mine wk"
    refine ⟨by simp, _, _, rfl, ?_⟩
    have W := pR.wf
    have V := pS.wf
    refine X_cons ?_
    refine X_weak (m' := [(Str.ofString "one", planeA Cp (.int w) (.int h) (rowsAV R)), (Str.ofString "other", planeA Cp (.int w) (.int h) (rowsAV S)), (Str.ofString "divisors", .tup (ds.map .int)), (Str.ofString "others", rowsAV S), (Str.ofString "rows", rowsAV R),
      (Str.ofString "height", .int h), (Str.ofString "width", .int w), (Str.ofString "side", .int s)]) (by walk_at "mine le") ?_
    refine X_compA [(Str.ofString "rows", rowsAV R), (Str.ofString "others", rowsAV S), (Str.ofString "width", .int w)] rfl ?_
    refine T_callTn X.z.b.range rfl rfl ?_
    walk_at "mine wk"
    refine F_range1 ?_
    refine ⟨_, Iter.range1 (by omega) (by omega), by simp; omega, fun j acc mu3 => acc = ((List.range j).map fun y => rowAV ((List.range w).map fun x => cN R y x - cN S y x)) ∧ mu3 = mu2, ⟨rfl, rfl⟩, ?_, ?_⟩
    · rintro L2 y acc mu3 y' hi - ⟨rfl, rfl⟩
      obtain ⟨hlt, rfl⟩ := range_get hi
      have hlt : y < h := by omega
      refine T_compA [(Str.ofString "rows", rowsAV R), (Str.ofString "others", rowsAV S), (Str.ofString "y", .int (y : Nat))] rfl ?_
      refine T_callTn X.z.b.range rfl rfl ?_
      walk_at "mine wk"
      refine F_range1 ?_
      refine ⟨_, Iter.range1 (by omega) (by omega), by simp; omega, fun x acc mu' => acc = ((List.range x).map fun x => AV.int (cN R y x - cN S y x)) ∧ mu' = mu3, ⟨rfl, rfl⟩, ?_, ?_⟩
      · rintro L2 x acc mu' y' hj - ⟨rfl, rfl⟩
        obtain ⟨hxt, rfl⟩ := range_get hj
        have hxt : x < w := by omega
        walk_at "mine wk"
        refine O_row W hlt ?_
        walk_at "mine wk"
        refine O_cell (by rw [W.row hlt]; exact hxt) (by rw [W.row hlt]; omega) ?_
        walk_at "mine wk"
        refine O_row V hlt ?_
        walk_at "mine wk"
        refine O_cell (by rw [V.row hlt]; exact hxt) (by rw [V.row hlt]; omega) ?_
        walk_at "mine wk"
        refine ⟨?_, rfl⟩
        rw [range_snoc]
        rfl
      · rintro acc mu' hacc ⟨rfl, rfl⟩
        refine ⟨?_, rfl⟩
        rw [range_snoc, List.length_map, List.length_range, Int.toNat_natCast, row_mk]
    rintro acc mu3 hacc ⟨rfl, rfl⟩
    rw [List.length_map, List.length_range, Int.toNat_natCast, ← rowsAV_mk]
    clear hacc
    have WA : Wf (mk w h fun y x => cN R y x - cN S y x) w h := mk_wf w0 h0 (by omega) (by omega)
    refine X_cons (X_set (.inl rfl) ?_)
    refine T_callG X.difference rfl fun f1 F1 => ?_
    walk_at "mine wk"
    refine (difference_ok X W V F1 ?_).call
    generalize (mk w h fun y x => cN R y x - cN S y x) = A at WA
    refine X_cons (X_if ?_)
    refine TB_bool ?_
    refine TA_or ?_
    refine TB_cmp ?_
    walk_at "mine wk"
    refine O_fld X.p.rows.a rfl ?_
    walk_at "mine wk"
    refine B_ne_rows ?_
    rw [if_neg (by decide)]
    refine TA_or ?_
    refine TB_cmp ?_
    refine T_tuple ?_
    walk_at "mine wk"
    refine O_fld X.p.width.a rfl ?_
    walk_at "mine wk"
    refine O_fld X.p.height.a rfl ?_
    walk_at "mine wk"
    refine ⟨by simp, ?_⟩
    walk_at "mine wk"
    refine ⟨by simp, ?_⟩
    refine B_ne_tup (r := [(w : Int), (h : Int)]) ?_
    rw [if_neg (by decide)]
    refine TA_or_nil ?_
    rw [if_neg (by decide)]
    walk_at "mine wk"
    refine T_callC X.f.frame rfl ?_
    walk_at "mine wk"
    refine T_list ?_
    refine TL_cons ?_
    refine T_callC X.f.comp rfl ?_
    walk_at "mine wk"
    refine (comp_ok X.f ?_).call
    walk_at "mine wk"
    refine ⟨by simp, ?_⟩
    walk_at "mine wk"
    refine (frame_ok X.f ?_).call
    refine X_cons (X_set (.inl rfl) ?_)
    refine T_callC X.g.grid rfl ?_
    walk_at "mine wk"
    refine (grid_ok X.f X.g hs (by omega) (by omega) fun p as mu4 G => ?_).call
    refine X_cons (X_expr ?_)
    refine T_callG X.putd rfl fun f1 F1 => ?_
    walk_at "mine wk"
    refine (put_ok X hs WA D G F1 fun R' mu5 G hQ => ?_).call
    refine ⟨rfl, ?_⟩
    have hQ : ∀ y x, y < nb h s → x < nb w s → R' y x = rowAV (coef s ds A w h y x) ∧ (coef s ds A w h y x).length = s * s := fun y x hy hx => ⟨hQ y x hy hx, coef_len hs⟩
    have hnx := nb_le hs WA.wz
    have hny := nb_le hs WA.hz
    have hwx := nb_ge (w := w) hs
    have hwy := nb_ge (w := h) hs
    refine X_cons (X_set (.inr ⟨rfl, rfl⟩) ?_)
    refine T_compA [(Str.ofString "width", .int w)] rfl ?_
    refine T_callTn X.z.b.range rfl rfl ?_
    walk_at "mine wk"
    refine F_range1 ?_
    refine ⟨_, Iter.range1 (by omega) (by omega), by simp; omega, fun j acc mu2 => MkRows mu5 (.int 0) (w + 1) j acc mu2, MkRows.zero, ?_, ?_⟩
    · rintro L2 j acc mu2 y hj - J
      walk_at "mine wk"
      refine T_list ?_
      walk_at "mine wk"
      refine ⟨by simp, ?_⟩
      walk_at "mine wk"
      refine O_repM (by omega) (by omega) fun r hr => ?_
      exact J.step hr
    rintro acc mu6 hacc ⟨as2, rfl, r1, k1, fr⟩
    clear hacc
    have e1 : Int.toNat ((h : Int) + 1) = h + 1 := by omega
    rw [List.length_map, List.length_range, e1] at r1
    have hl := r1.len
    let m0 : Mp := [(Str.ofString "meant", .list (refs as2)), (Str.ofString "grid", gridA Cg p s), (Str.ofString "frame", frameA Cc Cf w h s), (Str.ofString "told", planeA Cp (.int w) (.int h) (rowsAV A)), (Str.ofString "apart", rowsAV A),
      (Str.ofString "one", planeA Cp (.int w) (.int h) (rowsAV R)), (Str.ofString "other", planeA Cp (.int w) (.int h) (rowsAV S)), (Str.ofString "divisors", .tup (ds.map .int)), (Str.ofString "others", rowsAV S), (Str.ofString "rows", rowsAV R),
      (Str.ofString "height", .int h), (Str.ofString "width", .int w), (Str.ofString "side", .int s)]
    refine X_cons ?_
    refine X_forW m0 (by walk_at "mine le") (.inl rfl) ?_
    refine T_callTn X.z.b.range rfl rfl ?_
    walk_at "mine wk"
    refine O_fdiv (by omega) (by omega) ?_
    rw [nb_eq hs1]
    walk_at "mine wk"
    refine F_range1 ?_
    refine ⟨_, Iter.range1 (by omega) (by omega), fun y mu' => Ext mu5 mu' ∧ ∃ R2, RR mu' as2 R2 (h + 1) (w + 1) ∧ ∀ y' x', y' / s < y → y' < h → x' < w → R2 y' x' = .int (toldAt s ds (coef s ds A w h) y' x'), ⟨k1, _, r1, fun y' x' z => absurd z (Nat.not_lt_zero _)⟩, ?_, ?_⟩
    · rintro y mu' y' hi ⟨kE, R2, r2, e2⟩
      obtain ⟨hlt, rfl⟩ := range_get hi
      have hlt : y < nb h s := by omega
      have hyle : y * s + s ≤ h + 1 := by
        unfold nb at hlt
        rcases hs with rfl | rfl <;> omega
      refine X_cons ?_
      refine X_forW ((Str.ofString "y", .int (y : Nat)) :: m0) (by walk_at "mine le") (.inl rfl) ?_
      refine T_callTn X.z.b.range rfl rfl ?_
      walk_at "mine wk"
      refine O_fdiv (by omega) (by omega) ?_
      rw [nb_eq hs1]
      walk_at "mine wk"
      refine F_range1 ?_
      refine ⟨_, Iter.range1 (by omega) (by omega), fun x mu' => Ext mu5 mu' ∧ ∃ R2, RR mu' as2 R2 (h + 1) (w + 1) ∧ ∀ y' x', (y' / s < y ∨ y' / s = y ∧ x' / s < x) → y' < h → x' < w → R2 y' x' = .int (toldAt s ds (coef s ds A w h) y' x'), ⟨kE, R2, r2, fun y' x' z hy hx => e2 y' x' (at_start z) hy hx⟩, ?_, ?_⟩
      · clear kE r2 e2 R2 mu'
        rintro x mu' x' hx ⟨kE, R2, r2, e2⟩
        obtain ⟨hxt, rfl⟩ := range_get hx
        have hxt : x < nb w s := by omega
        have hxle : x * s + s ≤ w + 1 := by
          unfold nb at hxt
          rcases hs with rfl | rfl <;> omega
        obtain ⟨eR, lQ⟩ := hQ y x hlt hxt
        refine X_cons (X_set (.inl rfl) ?_)
        refine T_callG Y.coded rfl fun f1 F1 => ?_
        walk_at "mine wk"
        refine (coded_ok Y WA hs D (by omega) (by omega) F1 ?_).call
        refine X_cons (X_if ?_)
        refine TB_cmp ?_
        refine T_callTn X.z.b.list rfl rfl ?_
        refine TL_cons ?_
        obtain ⟨fp, M, F4⟩ := X.g.get
        refine T_meth ?_
        walk_at "mine wk"
        refine ⟨_, _, fp, rfl, rfl, M, ?_⟩
        walk_at "mine wk"
        refine (get_ok X.g (G.ext kE) hlt hxt hny hnx eR F4 ?_).call
        walk_at "mine wk"
        refine F_list (by rw [List.length_map, lQ]; omega) ?_
        walk_at "mine wk"
        refine B_ne_row ?_
        rw [if_neg (by decide)]
        walk_at "mine wk"
        refine T_callG Y.meant rfl fun f1 F1 => ?_
        walk_at "mine wk"
        refine (meant_ok Y hs lQ D F1 ?_).call
        have lb : (inv s (dequant ds (coef s ds A w h y x))).length = s * s := inv_len hs (by rw [dequant_len, lQ])
        have vb : ∀ i j, i < s → j < s → toldAt s ds (coef s ds A w h) (y * s + i) (x * s + j) = (inv s (dequant ds (coef s ds A w h y x))).getD (i * s + j) 0 := by
          intro i j hi hj
          unfold toldAt
          rw [divm hi, divm hj, modm hi, modm hj]
        generalize inv s (dequant ds (coef s ds A w h y x)) = b at lb vb
        refine X_cons ?_
        refine X_forW ((Str.ofString "some", rowAV b) :: (Str.ofString "x", .int (x : Nat)) :: (Str.ofString "y", .int (y : Nat)) :: m0) (by walk_at "mine le") (.inl rfl) ?_
        refine T_callTn X.z.b.range rfl rfl ?_
        walk_at "mine wk"
        refine O_mul (.inl (by omega)) ?_
        rw [natmul]
        walk_at "mine wk"
        refine F_range1 ?_
        refine ⟨_, Iter.range1 (by omega) (by omega), fun t mu' => Ext mu5 mu' ∧ ∃ R2, RR mu' as2 R2 (h + 1) (w + 1) ∧ ∀ y' x', (y' / s < y ∨ y' / s = y ∧ (x' / s < x ∨ x' / s = x ∧ y' % s * s + x' % s < t)) → y' < h → x' < w → R2 y' x' = .int (toldAt s ds (coef s ds A w h) y' x'), ⟨kE, R2, r2, fun y' x' z hy hx => e2 y' x' (at_start2 z) hy hx⟩, ?_, ?_⟩
        · clear kE r2 e2 R2 mu'
          rintro t mu' t' ht ⟨kE, R2, r2, e2⟩
          obtain ⟨htt, rfl⟩ := range_get ht
          have htt : t < s * s := by omega
          have hts : t / s < s := Nat.div_lt_of_lt_mul htt
          have htm : t % s < s := Nat.mod_lt _ hs1
          have htd : t / s * s + t % s = t := Nat.div_add_mod' t s
          have ht1 : ((t : Int) / s) = ((t / s : Nat) : Int) := (Int.natCast_ediv _ _).symm
          have ht2 : ((t : Int) % s) = ((t % s : Nat) : Int) := (Int.natCast_emod _ _).symm
          generalize t / s = tq at hts htd ht1
          generalize t % s = tr at htm htd ht2
          refine X_cons (X_assign ?_)
          walk_at "mine wk"
          refine O_cell (by omega) (by omega) ?_
          refine A_one (A_item ?_)
          walk_at "mine wk"
          refine O_mul (.inl (by omega)) ?_
          walk_at "mine wk"
          refine O_fdiv (by omega) (by omega) ?_
          walk_at "mine wk"
          rw [natmul, ht1]
          refine O_item (by omega) (by rw [refs_len]; omega) (by rw [refs_len]; omega) fun z ez => ?_
          obtain ⟨a, ea, rfl⟩ := refs_get ez
          walk_at "mine wk"
          refine O_mul (.inl (by omega)) ?_
          walk_at "mine wk"
          refine O_mod (by omega) ?_
          walk_at "mine wk"
          rw [natmul, ht2]
          refine ⟨a, _, _, rfl, rfl, r2.row _ a ea, by omega, by simp; omega, by simp; omega, ?_⟩
          walk_at "mine wk"
          refine ⟨rfl, by walk_at "mine le", kE.putF (fr a (get_mem ea)), _, r2.set ea, fun y' x' z hy hx => ?_⟩
          have eY : Int.toNat (((y * s : Nat) : Int) + ((tq : Nat) : Int)) = y * s + tq := by omega
          have eX : Int.toNat (((x * s : Nat) : Int) + ((tr : Nat) : Int)) = x * s + tr := by omega
          rw [eY, eX]
          unfold upd
          split
          · rename_i c
            obtain ⟨rfl, rfl⟩ := c
            rw [vb _ _ hts htm, htd]
          · rename_i c
            exact e2 y' x' (cell_turn hs1 htm htd c z) hy hx
        · rintro mu' ⟨kE, R2, r2, e2⟩
          walk_at "mine wk"
          refine ⟨rfl, by walk_at "mine le", kE, R2, r2, fun y' x' z hy hx => e2 y' x' ?_ hy hx⟩
          rw [List.length_map, List.length_range, Int.toNat_natCast]
          exact at_end2 (pair_lt (Nat.mod_lt _ hs1) (Nat.mod_lt _ hs1)) z
      · rintro mu' ⟨kE, R2, r2, e2⟩
        walk_at "mine wk"
        refine ⟨rfl, by walk_at "mine le", kE, R2, r2, fun y' x' z hy hx => e2 y' x' ?_ hy hx⟩
        rw [List.length_map, List.length_range, Int.toNat_natCast]
        exact at_end (nb_gt hs1 hx) z
    · rintro mu' ⟨kE, R2, r2, e2⟩
      refine X_cons (X_set (.inr ⟨rfl, rfl⟩) ?_)
      refine T_compA [(Str.ofString "width", .int w)] rfl ?_
      refine T_slice_upto rfl ?_
      walk_at "mine wk"
      refine ⟨_, _, .inl rfl, rfl, by omega, by rw [refs_len]; omega, ?_⟩
      refine ⟨_, Iter.list _, by rw [List.length_take, refs_len]; omega, fun j acc mu2 => acc = ((List.range j).map fun y => rowAV ((List.range w).map fun x => toldAt s ds (coef s ds A w h) y x)) ∧ mu2 = mu', ⟨rfl, rfl⟩, ?_, ?_⟩
      · rintro L2 j acc mu2 z hj - ⟨rfl, rfl⟩
        rw [List.getElem?_take] at hj
        split at hj
        · rename_i c
          obtain ⟨a, ea, rfl⟩ := refs_get hj
          have c : j < h := by omega
          refine T_slice_upto rfl ?_
          walk_at "mine wk"
          refine ⟨_, _, .inr ⟨a, rfl, r2.row _ a ea⟩, rfl, by omega, by simp; omega, ?_, rfl⟩
          rw [range_snoc _ j]
          congr 2
          rw [row_mk, Int.toNat_natCast, ← List.map_take, List.take_range, Nat.min_eq_left (by omega)]
          congr 1
          apply List.map_congr_left
          intro x hx
          refine e2 j x ?_ c (List.mem_range.mp hx)
          rw [List.length_map, List.length_range, Int.toNat_natCast]
          exact nb_gt hs1 c
        · cases hj
      rintro acc mu2 hacc ⟨rfl, rfl⟩
      rw [List.length_take, refs_len, hl, Int.toNat_natCast, Nat.min_eq_left (by omega), ← rowsAV_mk]
      clear hacc r2 e2
      have WM : Wf (mk w h (toldAt s ds (coef s ds A w h))) w h := mk_wf w0 h0 (by omega) (by omega)
      refine X_cons (X_set (.inl rfl) ?_)
      refine T_callG X.told rfl fun f1 F1 => ?_
      walk_at "mine wk"
      refine (told_ok X hs (by omega) (by omega) D (G.ext kE) hQ F1 fun mu7 _ => ?_).call
      generalize mk w h (toldAt s ds (coef s ds A w h)) = M at WM
      refine X_cons (X_if ?_)
      refine TB_cmp ?_
      walk_at "mine wk"
      refine B_ne_rows ?_
      rw [if_neg (by decide)]
      walk_at "mine wk"
      refine T_callG X.added rfl fun f1 F1 => ?_
      walk_at "mine wk"
      refine (added_ok X V WM F1 ?_).call
      refine X_cons (X_if ?_)
      refine TB_cmp ?_
      walk_at "mine wk"
      refine O_fld X.p.rows.a rfl ?_
      refine T_compA [(Str.ofString "others", rowsAV S), (Str.ofString "meant", rowsAV M), (Str.ofString "width", .int w)] rfl ?_
      refine T_callTn X.z.b.range rfl rfl ?_
      walk_at "mine wk"
      refine F_range1 ?_
      refine ⟨_, Iter.range1 (by omega) (by omega), by simp; omega, fun j acc mu3 => acc = ((List.range j).map fun y => rowAV ((List.range w).map fun x => clampI 255 (cN S y x + cN M y x))) ∧ mu3 = mu7, ⟨rfl, rfl⟩, ?_, ?_⟩
      · rintro L2 y acc mu3 y' hi - ⟨rfl, rfl⟩
        obtain ⟨hlt, rfl⟩ := range_get hi
        have hlt : y < h := by omega
        refine T_compA [(Str.ofString "others", rowsAV S), (Str.ofString "meant", rowsAV M), (Str.ofString "y", .int (y : Nat))] rfl ?_
        refine T_callTn X.z.b.range rfl rfl ?_
        walk_at "mine wk"
        refine F_range1 ?_
        refine ⟨_, Iter.range1 (by omega) (by omega), by simp; omega, fun x acc mu' => acc = ((List.range x).map fun x => AV.int (clampI 255 (cN S y x + cN M y x))) ∧ mu' = mu3, ⟨rfl, rfl⟩, ?_, ?_⟩
        · rintro L2 x acc mu' y' hj - ⟨rfl, rfl⟩
          obtain ⟨hxt, rfl⟩ := range_get hj
          have hxt : x < w := by omega
          refine T_callBn X.z.b.max rfl rfl ?_
          walk_at "mine wk"
          refine T_callBn X.z.b.min rfl rfl ?_
          walk_at "mine wk"
          refine O_row V hlt ?_
          walk_at "mine wk"
          refine O_cell (by rw [V.row hlt]; exact hxt) (by rw [V.row hlt]; omega) ?_
          walk_at "mine wk"
          refine O_row WM hlt ?_
          walk_at "mine wk"
          refine O_cell (by rw [WM.row hlt]; exact hxt) (by rw [WM.row hlt]; omega) ?_
          walk_at "mine wk"
          refine F_min2 ?_
          walk_at "mine wk"
          refine F_max2 ?_
          refine ⟨?_, rfl⟩
          rw [range_snoc, clamp_mm]
          rfl
        · rintro acc mu' hacc ⟨rfl, rfl⟩
          refine ⟨?_, rfl⟩
          rw [range_snoc, List.length_map, List.length_range, Int.toNat_natCast, row_mk]
      rintro acc mu3 hacc ⟨rfl, rfl⟩
      rw [List.length_map, List.length_range, Int.toNat_natCast, ← rowsAV_mk]
      refine B_ne_rows ?_
      rw [if_neg (by decide)]
      walk_at "mine wk"
      refine T_and3 ?_
      walk_at "mine wk"
      refine O_fld X.p.rows.a rfl ?_
      walk_at "mine wk"
      refine O_eq_rows ⟨rfl, ?_⟩
      walk_at "mine wk"
      refine O_fld X.p.rows.a rfl ?_
      walk_at "mine wk"
      refine O_eq_rows ⟨rfl, ?_⟩
      walk_at "mine wk"
      refine O_fld X.p.rows.a rfl ?_
      walk_at "mine wk"
      refine O_eq_rows ?_
      exact hP _
end

/-! ### P14 -/
theorem well_ints {P : Params} {h : Heap} : ∀ {vs : List Value} {ns : List Int}, WellAll P h vs ((ns.map PyData.int).map ofPy) → Its h vs (ns.map .int)
  | [], [], _ => .nil
  | [], _ :: _, W => by cases W
  | _ :: _, [], W => by cases W
  | v :: vs, k :: ns, W => by
    cases W with
    | cons a b =>
      cases a
      exact Its.cons (.int _ _) (well_ints b)
theorem ofPys_map : ∀ l : List PyData, ofPys l = l.map ofPy
  | [] => rfl
  | x :: r => by rw [ofPys, ofPys_map r]; rfl
theorem well_script {P : Params} {h : Heap} {a : Addr} {ns : List Int} (W : Well P h (.ref a) (ofPy (.list (ns.map PyData.int)))) : At h (.ref a) (rowAV ns) := by
  rw [ofPy] at W
  cases W with
  | list e r =>
    rw [ofPys_map] at r
    have I := well_ints r
    exact .list ⟨_, e⟩ I.1 I.2
noncomputable def Facts (K : Frag) : Prop := ∃ Cp Ct Co Cc Cf Cg, DiffK K Cp Ct Co Cc Cf Cg ∧ LawK K ∧ GF K "law" (stm prg 73)
theorem facts_of {K : Frag} {Cp Ct Co Cc Cf Cg : Addr} (b : BltK K) (p : PlaneK K Cp) (blk : GF K "block_of" (stm prg 1)) (d : DctK K Ct Co) (z : BltK K → ZigK K) (f : BltK K → FrameK K Cc Cf) (g : GridK K Cg)
    (h1 : GF K "clamped" (stm prg 2)) (h2 : GF K "difference" (stm prg 55)) (h3 : GF K "added" (stm prg 56)) (h4 : GF K "put_differences" (stm prg 57)) (h5 : GF K "told_differences" (stm prg 58)) {t : Tok} (h6 : nsIn K mainGlobals "SCALE" = some (some (.int 8 t)))
    (y : BltK K → LawK K) (l : GF K "law" (stm prg 73)) : Facts K :=
  ⟨Cp, Ct, Co, Cc, Cf, Cg, ⟨p, ⟨p, b.range, blk⟩, d, z b, f b, g, h1, h2, h3, h4, h5, ⟨_, h6⟩⟩, y b, l⟩
theorem finish {w : World} {s₀ s₁ : Shared} {K : Frag} {mg mb : Str → Option Value} {p : Program} {loose : List Str} {mean : ExcName → Option Value} {fa a : Addr} {ns : List Int}
    (T : Top p loose mean mg mb s₁.heap) (KX : K.In s₁.heap) (hmg : mg (Str.ofString "law") = some (.ref fa)) (hw : Well w.params s₁.heap (.ref a) (ofPy (.list (ns.map PyData.int)))) (hl : ¬ ((63 : Int) < ns.length)) (hg : s₁.gens = #[])
    (X : Facts K) :
    codeAny (model PySem.Challenge.rw_nz0256_01.row.prog w) callerA (.call (.ref fa) ⟨[.ref a], []⟩) (GoodW PySem.Challenge.rw_nz0256_01.row.claim (classAt s₀.heap) (ExcName.means s₀.heap) [ofPy (.list (ns.map PyData.int))] s₁) s₁ := by
  obtain ⟨Cp, Ct, Co, Cc, Cf, Cg, X, Y, f, e1, F, _⟩ := X
  have e2 := mg_of KX T.g e1
  rw [hmg] at e2
  cases e2
  let C : Cfg := ⟨prg, w, s₁, K⟩
  have g : Gm C.K s₁.heap (fun _ => none) s₁.heap := ⟨Sub.refl _, fun a o e => (nomatch e), ⟨KX, ⟨mg, T.g⟩, ⟨mb, T.b, T.builtins⟩, T.nolimit⟩⟩
  have A : Aok 10 callerA := ⟨rfl, by decide, by decide⟩
  refine law_ok (n := 4) (C := C) (P := fun y _ => y = .val (.bool true)) X Y (by omega) F (fun _ => rfl) callerA A s₁.heap s₁.heap s₁.toks [.ref a] g (Its.cons (well_script hw) Its.nil) _ ?_
  rintro v y G' mu' h' k' S r rfl
  cases r
  refine ⟨.inl ⟨_, .bool true, [], rfl, fun _ => rfl, .bool true, ?_, fun _ => ⟨List.nodup_nil, fun _ h => nomatch h⟩⟩, fun b o e => S.keep b o e (by simp) rfl, rfl, hg⟩
  wrow_post

/-! ### names taken ahead, so that the head lays no second copy of its own constants (the file would be 234 MB) -/
theorem head.tw16072502192527678464 : True := trivial
theorem head.tw16894197260953374720 : True := trivial
theorem head.tw7732209734871044160 : True := trivial
theorem head.tw15898109809663626304 : True := trivial
theorem head.tw17238610979035211840 : True := trivial
theorem head.tw17972497016974392416 : True := trivial
theorem head.tw9234455393454914656 : True := trivial
theorem head.tw2554682012703037696 : True := trivial
theorem head.tw18123143868385100064 : True := trivial
theorem head.tw1985537357303476512 : True := trivial
theorem head.tw4473611206160876864 : True := trivial
theorem head.tw11628534518673281344 : True := trivial
theorem head.tw5944575059761466720 : True := trivial
theorem head.tw13294958713779813728 : True := trivial
theorem head.tw15037083628117588352 : True := trivial
theorem head.tw7450023128482652576 : True := trivial
theorem head.tw14086173767186703872 : True := trivial
theorem head.tw6202090305015876224 : True := trivial
theorem head.tw16172288393029767808 : True := trivial
theorem head.tw9074772780463953568 : True := trivial
theorem head.tw2096541523181747872 : True := trivial
theorem head.tw11402027661713467040 : True := trivial
theorem head.tw2428695696106030784 : True := trivial
theorem head.tw4357005996527412928 : True := trivial
theorem head.tw9380374249521086144 : True := trivial
theorem head.tw290710125855613696 : True := trivial
theorem head.tw13999681649124312864 : True := trivial
theorem head.tw12460202669355646752 : True := trivial
theorem head.tw5467695095851852608 : True := trivial
theorem head.tw3417000433125282624 : True := trivial
theorem head.tw3496171461512900480 : True := trivial
theorem head.tw7417405269818204032 : True := trivial
theorem head.tw12795389718870424448 : True := trivial
theorem head.tw10242447542790323104 : True := trivial
theorem head.tw7046380642943354848 : True := trivial
theorem head.tw18332285231265401824 : True := trivial
theorem head.tw1992862871153497056 : True := trivial
theorem head.tw17525636777796739105 : True := trivial
theorem head.tw14527164170590304321 : True := trivial
theorem head.tw16470739840699324481 : True := trivial
theorem head.tw9592777112578238593 : True := trivial
theorem head.tw11998209505049934977 : True := trivial
theorem head.tw3615648651819825313 : True := trivial
theorem head.tw13846591363081406657 : True := trivial
theorem head.tw9388430590476628193 : True := trivial
theorem head.tw4764554697811233 : True := trivial
theorem head.tw16545597347906280737 : True := trivial
theorem head.tw10356212845559719233 : True := trivial
theorem head.tw15052771764104931649 : True := trivial
theorem head.tw1929634836878124385 : True := trivial
theorem head.tw5792407227767346561 : True := trivial
theorem head.tw12998212659555988865 : True := trivial
theorem head.tw6240353410654795137 : True := trivial
theorem head.tw3690969761935527329 : True := trivial
theorem head.tw1976755195193171425 : True := trivial
theorem head.tw5865467396996320769 : True := trivial
theorem head.tw3088210815446039105 : True := trivial
theorem head.tw3500380475922496097 : True := trivial
theorem head.tw1499353310998574721 : True := trivial
theorem head.tw15064752311394979489 : True := trivial
theorem head.tw4819274691006582465 : True := trivial
theorem head.tw12727220549172885185 : True := trivial
theorem head.tw10936905620487946977 : True := trivial
theorem head.tw4419558321834357505 : True := trivial
theorem head.tw9062998866958442273 : True := trivial
theorem head.tw7277520189549225825 : True := trivial
theorem head.tw7161073391023584161 : True := trivial
theorem head.tw3270352941656771521 : True := trivial
theorem head.tw9743709737119245314 : True := trivial
theorem head.tw8402328212356670530 : True := trivial
theorem head.tw6588589085864783938 : True := trivial
theorem head.tw2525317073905713282 : True := trivial
theorem head.tw12472887615940459650 : True := trivial
theorem head.tw12875325457547866274 : True := trivial
theorem head.tw14676189674455941282 : True := trivial
theorem head.tw4965378191221513410 : True := trivial
theorem head.tw11692735721529064706 : True := trivial
theorem head.tw3696042808614700290 : True := trivial
theorem head.tw8101760021730824546 : True := trivial
theorem head.tw1134157569726261602 : True := trivial
theorem head.tw16172356507618199906 : True := trivial
theorem head.tw7658410731251134818 : True := trivial
theorem head.tw15253846138512369154 : True := trivial
theorem head.tw6858743491597560450 : True := trivial
theorem head.tw5019597260055213698 : True := trivial
theorem head.tw12841863872788715202 : True := trivial
theorem head.tw17993767162375566018 : True := trivial
theorem head.tw7802898811600756450 : True := trivial
theorem head.tw3160712208675142370 : True := trivial
theorem head.tw9820158181544301314 : True := trivial
theorem head.tw7523532297153676066 : True := trivial
theorem head.tw1056085985882870562 : True := trivial
theorem head.tw6369041477666114370 : True := trivial
theorem head.tw9171846695823722306 : True := trivial
theorem head.tw14983349147647662914 : True := trivial
theorem head.tw8275721083811815234 : True := trivial
theorem head.tw5187041380464763778 : True := trivial
theorem head.tw12478146576626367362 : True := trivial
theorem head.tw3083302935323014018 : True := trivial
theorem head.tw18051680202136193954 : True := trivial
theorem head.tw18331532914195504034 : True := trivial
theorem head.tw8182465387277545410 : True := trivial
theorem head.tw6521490308693473283 : True := trivial
theorem head.tw5986637957666399235 : True := trivial
theorem head.tw10533634037010066435 : True := trivial
theorem head.tw10746725682022337571 : True := trivial
theorem head.tw2355103038987944067 : True := trivial
theorem head.tw2728595385866086531 : True := trivial
theorem head.tw7179252675378151715 : True := trivial
theorem head.tw17725469503822016867 : True := trivial
theorem head.tw12763952150808568291 : True := trivial
theorem head.tw15894371620910866019 : True := trivial
theorem head.tw6088685845774392931 : True := trivial
theorem head.tw851385035628625539 : True := trivial
theorem head.tw9658139154387788515 : True := trivial
theorem head.tw1917425121527220963 : True := trivial
theorem head.tw4415685298772064003 : True := trivial
theorem head.tw8541356943393881859 : True := trivial
theorem head.tw17577399041416155939 : True := trivial
theorem head.tw3665506230870052707 : True := trivial
theorem head.tw17905491414393134947 : True := trivial
theorem head.tw2393098407364606883 : True := trivial
theorem head.tw2694075680205673411 : True := trivial
theorem head.tw976808484645153763 : True := trivial
theorem head.tw10900948863051656163 : True := trivial
theorem head.tw15410735652082386980 : True := trivial
theorem head.tw11060938730435951684 : True := trivial
theorem head.tw11180365069992382532 : True := trivial
theorem head.tw4607607821588926596 : True := trivial
theorem head.tw9083612298779875492 : True := trivial
theorem head.tw7498250532897285284 : True := trivial
theorem head.tw13397106695672350980 : True := trivial
theorem head.tw14999265807660949796 : True := trivial
theorem head.tw8414573866900348196 : True := trivial
theorem head.tw3368030927266983236 : True := trivial
theorem head.tw14241001667801471300 : True := trivial
theorem head.tw16014373381606645092 : True := trivial
theorem head.tw578259024812056932 : True := trivial
theorem head.tw999222835498014148 : True := trivial
theorem head.tw9273958884904355332 : True := trivial
theorem head.tw3863384581746538084 : True := trivial
theorem head.tw17015032458148788900 : True := trivial
theorem head.tw16922147877168347812 : True := trivial
theorem head.tw6489421142724028100 : True := trivial
theorem head.tw9838509708139735780 : True := trivial
theorem head.tw9495540839478616804 : True := trivial
theorem head.tw10059252607514160932 : True := trivial
theorem head.tw15506723302920939300 : True := trivial
theorem head.tw1503407388533364548 : True := trivial
theorem head.tw6846866878297920324 : True := trivial
theorem head.tw13986843968525588388 : True := trivial
theorem head.tw15895748673760503845 : True := trivial
theorem head.tw7096138990903361605 : True := trivial
theorem head.tw17850378814381688901 : True := trivial
theorem head.tw6161856959107265637 : True := trivial
theorem head.tw8216834362191484069 : True := trivial
theorem head.tw14703595242269399205 : True := trivial
theorem head.tw10021064610941686981 : True := trivial
theorem head.tw15796087645652482245 : True := trivial
theorem head.tw14796412885826930917 : True := trivial
theorem head.tw4196546014268931301 : True := trivial
theorem head.tw11923155195566972133 : True := trivial
theorem head.tw16576625349610184965 : True := trivial
theorem head.tw1522823579158628613 : True := trivial
theorem head.tw10786079294511566085 : True := trivial
theorem head.tw13955511503576765797 : True := trivial
theorem head.tw14078167904914714981 : True := trivial
theorem head.tw1519320592345488741 : True := trivial
theorem head.tw4839655697589452165 : True := trivial
theorem head.tw3103639331685909893 : True := trivial
theorem head.tw1211024037004892549 : True := trivial
theorem head.tw10265929125382437317 : True := trivial
theorem head.tw7404141018258913797 : True := trivial
theorem head.tw5593727005144783397 : True := trivial
theorem head.tw12324890628731678277 : True := trivial
theorem head.tw4311042196063409733 : True := trivial
theorem head.tw8603420104599213669 : True := trivial
theorem head.tw5080737588221150853 : True := trivial
theorem head.tw11255790879490906821 : True := trivial
theorem head.tw3405375401864073989 : True := trivial
theorem head.tw7661765248129044261 : True := trivial
theorem head.tw9197122456581196581 : True := trivial
theorem head.tw12182850187970735909 : True := trivial
theorem head.tw8187629637223713605 : True := trivial
theorem head.tw3980653432952411973 : True := trivial
theorem head.tw10010264046613662565 : True := trivial
theorem head.tw16695014060947850149 : True := trivial
theorem head.tw13906610036690215845 : True := trivial
theorem head.tw12344544660321961925 : True := trivial
theorem head.tw14349913743752837093 : True := trivial
theorem head.tw807299193193998342 : True := trivial
theorem head.tw3860651933079915558 : True := trivial
theorem head.tw16078238667976319046 : True := trivial
theorem head.tw13508044439285423174 : True := trivial
theorem head.tw10573961123116132518 : True := trivial
theorem head.tw9515422150858430662 : True := trivial
theorem head.tw5906749814970224870 : True := trivial
theorem head.tw1748456618969930982 : True := trivial
theorem head.tw15827502805916655846 : True := trivial
theorem head.tw17988201657351507238 : True := trivial
theorem head.tw8792639405592421670 : True := trivial
theorem head.tw2326617092838664518 : True := trivial
theorem head.tw6640010369347007910 : True := trivial
theorem head.tw1457377512435260902 : True := trivial
theorem head.tw4017301010375394790 : True := trivial
theorem head.tw16111715859725283846 : True := trivial
theorem head.tw1909714482019496454 : True := trivial
theorem head.tw1689142752476645926 : True := trivial
theorem head.tw16874305072444578374 : True := trivial
theorem head.tw14512941343882779238 : True := trivial
theorem head.tw5764021196749891206 : True := trivial
theorem head.tw10521553517811329670 : True := trivial
theorem head.tw13537664574400122534 : True := trivial
theorem head.tw18364922244981856966 : True := trivial
theorem head.tw18384547517478447814 : True := trivial
theorem head.tw13295082483830516422 : True := trivial
theorem head.tw13276723143375012678 : True := trivial
theorem head.tw4991397462208424806 : True := trivial
theorem head.tw4053978428183960486 : True := trivial
theorem head.tw9101448428047585222 : True := trivial
theorem head.tw15840312062823119879 : True := trivial
theorem head.tw16984083398119652359 : True := trivial
theorem head.tw6212921109956642855 : True := trivial
theorem head.tw2260579728952749127 : True := trivial
theorem head.tw11105056867450500199 : True := trivial
theorem head.tw1062042127530464391 : True := trivial
theorem head.tw1906429620130506887 : True := trivial
theorem head.tw14112020806712329415 : True := trivial
theorem head.tw18007968972792079559 : True := trivial
theorem head.tw2529948359932261575 : True := trivial
theorem head.tw5987550445186205895 : True := trivial
theorem head.tw8185714761375850791 : True := trivial
theorem head.tw14090159008775844135 : True := trivial
theorem head.tw4693820183103290663 : True := trivial
theorem head.tw11582096051123008839 : True := trivial
theorem head.tw14385403278947933607 : True := trivial
theorem head.tw11481885665386053095 : True := trivial
theorem head.tw7680146299302783591 : True := trivial
theorem head.tw1319983325249436295 : True := trivial
theorem head.tw18014224886719972007 : True := trivial
theorem head.tw8041981036286801607 : True := trivial
theorem head.tw10988817232074504935 : True := trivial
theorem head.tw1272635626206103303 : True := trivial
theorem head.tw8409189969818401543 : True := trivial
theorem head.tw7994106446794305319 : True := trivial
theorem head.tw13605870324054321959 : True := trivial
theorem head.tw5973763720392745831 : True := trivial
theorem head.tw18125128294737035143 : True := trivial
theorem head.tw8408249889716310983 : True := trivial
theorem head.tw262713603470380999 : True := trivial
theorem head.tw6265338273532641288 : True := trivial
theorem head.tw10952189463223380040 : True := trivial
theorem head.tw6226413525154113608 : True := trivial
theorem head.tw9997931420998421608 : True := trivial
theorem head.tw14699756766385990792 : True := trivial
theorem head.tw2591067827882107080 : True := trivial
theorem head.tw13353151263460963528 : True := trivial
theorem head.tw15253147559959296200 : True := trivial
theorem head.tw10366927770000222440 : True := trivial
theorem head.tw14969395210118534408 : True := trivial
theorem head.tw12870424476946447624 : True := trivial
theorem head.tw3264716943610762504 : True := trivial
theorem head.tw3164961170700492040 : True := trivial
theorem head.tw14412733801367601576 : True := trivial
theorem head.tw2066564036433440168 : True := trivial
theorem head.tw4834694072379752904 : True := trivial
theorem head.tw1894759731626308040 : True := trivial
theorem head.tw3304075619188804072 : True := trivial
theorem head.tw10019951398262190568 : True := trivial
theorem head.tw2879759524354350568 : True := trivial
theorem head.tw11308087075614649832 : True := trivial
theorem head.tw14631306762972528136 : True := trivial
theorem head.tw14946772226789246504 : True := trivial
theorem head.tw14943480678444902952 : True := trivial
theorem head.tw16441004959143088680 : True := trivial
theorem head.tw2154566216772986472 : True := trivial
theorem head.tw17698105195316432488 : True := trivial
theorem head.tw2437478716016495240 : True := trivial
theorem head.tw14565420633037775528 : True := trivial
theorem head.tw7876399200375917224 : True := trivial
theorem head.tw17109638464079675080 : True := trivial
theorem head.tw8169693465737517768 : True := trivial
theorem head.tw1276956409769668328 : True := trivial
theorem head.tw13932022402069264104 : True := trivial
theorem head.tw17674571679781333832 : True := trivial
theorem head.tw17411354535832351560 : True := trivial
theorem head.tw9554096598146076520 : True := trivial
theorem head.tw11097941207591946120 : True := trivial
theorem head.tw13801937863458859944 : True := trivial
theorem head.tw7656372460463219624 : True := trivial
theorem head.tw14637134836413734856 : True := trivial
theorem head.tw2864405669816312776 : True := trivial
theorem head.tw8549075639274686408 : True := trivial
theorem head.tw3581614266968435656 : True := trivial
theorem head.tw2825341998796452840 : True := trivial
theorem head.tw5788964047882338313 : True := trivial
theorem head.tw780477332936465449 : True := trivial
theorem head.tw14956371261235936329 : True := trivial
theorem head.tw1588943658860677225 : True := trivial
theorem head.tw11005904730967762025 : True := trivial
theorem head.tw10018764681926925449 : True := trivial
theorem head.tw4964814941381164201 : True := trivial
theorem head.tw17377423518514600169 : True := trivial
theorem head.tw6810394565832836361 : True := trivial
theorem head.tw7833285031277912329 : True := trivial
theorem head.tw11862927689305589065 : True := trivial
theorem head.tw17539234302018041193 : True := trivial
theorem head.tw14168692526580214153 : True := trivial
theorem head.tw18176413224385145225 : True := trivial
theorem head.tw15647610678857825673 : True := trivial
theorem head.tw17894702793023417833 : True := trivial
theorem head.tw7705420606127192585 : True := trivial
theorem head.tw5331137831679937033 : True := trivial
theorem head.tw820421773197932041 : True := trivial
theorem head.tw2340069552987342377 : True := trivial
theorem head.tw5015311536963163689 : True := trivial
theorem head.tw4554283584077286953 : True := trivial
theorem head.tw10472834687351259785 : True := trivial
theorem head.tw9646481798937456297 : True := trivial
theorem head.tw11305582741114486441 : True := trivial
theorem head.tw2241628862621589225 : True := trivial
theorem head.tw4377270945021899497 : True := trivial
theorem head.tw7961726388155042601 : True := trivial
theorem head.tw5407718363533321033 : True := trivial
theorem head.tw315434073420411817 : True := trivial
theorem head.tw18419137052163196841 : True := trivial
theorem head.tw17486074103640542121 : True := trivial
theorem head.tw13910694723763315657 : True := trivial
theorem head.tw15782939476341012554 : True := trivial
theorem head.tw12668424612319814730 : True := trivial
theorem head.tw17608190574486352970 : True := trivial
theorem head.tw380116879960591498 : True := trivial
theorem head.tw5096742575497195690 : True := trivial
theorem head.tw10128820837102578890 : True := trivial
theorem head.tw16894393574925625578 : True := trivial
theorem head.tw9103479521544129834 : True := trivial
theorem head.tw17113217626458354986 : True := trivial
theorem head.tw17212568112599259466 : True := trivial
theorem head.tw5418945672586834282 : True := trivial
theorem head.tw10706776884845955466 : True := trivial
theorem head.tw17836260108008149386 : True := trivial
theorem head.tw6211381574409162282 : True := trivial
theorem head.tw8182079617134344778 : True := trivial
theorem head.tw9318794584737855082 : True := trivial
theorem head.tw5061997093462229610 : True := trivial
theorem head.tw69809265629811306 : True := trivial
theorem head.tw18080951475816111786 : True := trivial
theorem head.tw5996384718915585738 : True := trivial
theorem head.tw13917482298092908234 : True := trivial
theorem head.tw3021114989795446570 : True := trivial
theorem head.tw13896987355042952010 : True := trivial
theorem head.tw17453365369857097546 : True := trivial
theorem head.tw6684978435548883818 : True := trivial
theorem head.tw9717200733822644074 : True := trivial
theorem head.tw7928285938522686346 : True := trivial
theorem head.tw17844492200522320778 : True := trivial
theorem head.tw6968674436765558698 : True := trivial
theorem head.tw5487235932777146282 : True := trivial
theorem head.tw6099028997845504075 : True := trivial
theorem head.tw3127049524044150859 : True := trivial
theorem head.tw2753283235347674219 : True := trivial
theorem head.tw17007033763367706731 : True := trivial
theorem head.tw17339705970751849611 : True := trivial
theorem head.tw15676425527210111115 : True := trivial
theorem head.tw4405531762615560363 : True := trivial
theorem head.tw9625377726130185387 : True := trivial
theorem head.tw11289835788462762251 : True := trivial
theorem head.tw8172283286065499403 : True := trivial
theorem head.tw6379358179555706155 : True := trivial
theorem head.tw1608297297296620843 : True := trivial
theorem head.tw14768688571040804171 : True := trivial
theorem head.tw5927865893512547691 : True := trivial
theorem head.tw15305915472762889579 : True := trivial
theorem head.tw11569442021236766091 : True := trivial
theorem head.tw13743032657059413451 : True := trivial
theorem head.tw15468718075485040107 : True := trivial
theorem head.tw14667470093908496907 : True := trivial
theorem head.tw8796753266530204203 : True := trivial
theorem head.tw5506250874072839755 : True := trivial
theorem head.tw3404819636646143723 : True := trivial
theorem head.tw16769997242578385675 : True := trivial
theorem head.tw1172538174109094731 : True := trivial
theorem head.tw8097174177036852075 : True := trivial
theorem head.tw14488727979953464203 : True := trivial
theorem head.tw5479459121986351116 : True := trivial
theorem head.tw10270352894671993868 : True := trivial
theorem head.tw5380383263664398348 : True := trivial
theorem head.tw14969872817325187116 : True := trivial
theorem head.tw1748324962394589228 : True := trivial
theorem head.tw7512725033676591148 : True := trivial
theorem head.tw1506576300011279404 : True := trivial
theorem head.tw9464831228461672588 : True := trivial
theorem head.tw4708111749353345164 : True := trivial
theorem head.tw6602476347957198060 : True := trivial
theorem head.tw2588942769649879372 : True := trivial
theorem head.tw7575806435727305068 : True := trivial
theorem head.tw12287978374625458572 : True := trivial
theorem head.tw1642545813376747948 : True := trivial
theorem head.tw6522505103286579628 : True := trivial
theorem head.tw15638870477510070732 : True := trivial
theorem head.tw14699528089545365996 : True := trivial
theorem head.tw7156519585557434892 : True := trivial
theorem head.tw16845296645482713644 : True := trivial
theorem head.tw17789423225533864492 : True := trivial
theorem head.tw14139502460874162764 : True := trivial
theorem head.tw48543519692965452 : True := trivial
theorem head.tw3790771472595898956 : True := trivial
theorem head.tw2764016085172604524 : True := trivial
theorem head.tw9082462177598256812 : True := trivial
theorem head.tw3547240966391284428 : True := trivial
theorem head.tw11484358847640170188 : True := trivial
theorem head.tw7090939061502383884 : True := trivial
theorem head.tw6891450509433485068 : True := trivial
theorem head.tw1216361941278037836 : True := trivial
theorem head.tw6110071263904590700 : True := trivial
theorem head.tw16847831306532103052 : True := trivial
theorem head.tw7256407767356113836 : True := trivial
theorem head.tw9325057278558614444 : True := trivial
theorem head.tw3991279037241028524 : True := trivial
theorem head.tw15845715064670954444 : True := trivial
theorem head.tw7019705661483823052 : True := trivial
theorem head.tw10205530081349824492 : True := trivial
theorem head.tw14127983276867164173 : True := trivial
theorem head.tw14432977821161478157 : True := trivial
theorem head.tw6121141971511671821 : True := trivial
theorem head.tw9701577420580846637 : True := trivial
theorem head.tw5392078452651409485 : True := trivial
theorem head.tw15148963937461231693 : True := trivial
theorem head.tw1318689175770300589 : True := trivial
theorem head.tw12330954535739239725 : True := trivial
theorem head.tw6153569298028143949 : True := trivial
theorem head.tw5870146547769353613 : True := trivial
theorem head.tw7272792461964422541 : True := trivial
theorem head.tw15436542981012472205 : True := trivial
theorem head.tw15781038721244158349 : True := trivial
theorem head.tw16817119741492734445 : True := trivial
theorem head.tw14139617269561922093 : True := trivial
theorem head.tw8402214883040486957 : True := trivial
theorem head.tw16572314662081343053 : True := trivial
theorem head.tw7599496313472250701 : True := trivial
theorem head.tw12601080634535202701 : True := trivial
theorem head.tw6237802210402583469 : True := trivial
theorem head.tw9644850379433450445 : True := trivial
theorem head.tw13600378441667735501 : True := trivial
theorem head.tw3122906425038022637 : True := trivial
theorem head.tw17332727794074296334 : True := trivial
theorem head.tw940147379719373870 : True := trivial
theorem head.tw3659646283403374670 : True := trivial
theorem head.tw16659920880120507502 : True := trivial
theorem head.tw12328230846540189838 : True := trivial
theorem head.tw10389290468125465742 : True := trivial
theorem head.tw300626226527484142 : True := trivial
theorem head.tw11426403942048686318 : True := trivial
theorem head.tw12704426703380559182 : True := trivial
theorem head.tw18416563613846182222 : True := trivial
theorem head.tw12359489953124434286 : True := trivial
theorem head.tw7616930195647119758 : True := trivial
theorem head.tw16474958459275807246 : True := trivial
theorem head.tw1495726902847802894 : True := trivial
theorem head.tw12362083183470981646 : True := trivial
theorem head.tw13750642191701924398 : True := trivial
theorem head.tw7309950759910210094 : True := trivial
theorem head.tw17093656651364094606 : True := trivial
theorem head.tw14009643544190721742 : True := trivial
theorem head.tw15562219460585959150 : True := trivial
theorem head.tw16128420640991077102 : True := trivial
theorem head.tw10431609616501453582 : True := trivial
theorem head.tw709382114072422158 : True := trivial
theorem head.tw6053997905714604814 : True := trivial
theorem head.tw9746458257258439470 : True := trivial
theorem head.tw12773685731770592110 : True := trivial
theorem head.tw13180129090757240718 : True := trivial
theorem head.tw3089916443595474862 : True := trivial
theorem head.tw15520248196984853422 : True := trivial
theorem head.tw14234965402570480558 : True := trivial
theorem head.tw1524684057812940815 : True := trivial
theorem head.tw739537129135343663 : True := trivial
theorem head.tw10116942457455264815 : True := trivial
theorem head.tw16640130746408290383 : True := trivial
theorem head.tw4090201507572337743 : True := trivial
theorem head.tw18215824643853355119 : True := trivial
theorem head.tw14841693372963708047 : True := trivial
theorem head.tw8715499118904818895 : True := trivial
theorem head.tw1620002657737552111 : True := trivial
theorem head.tw18165431152234640623 : True := trivial
theorem head.tw17129914584562691343 : True := trivial
theorem head.tw3794523003379204399 : True := trivial
theorem head.tw12310735299239354703 : True := trivial
theorem head.tw14643560169476415855 : True := trivial
theorem head.tw12371566548271132015 : True := trivial
theorem head.tw17784522201281872271 : True := trivial
theorem head.tw4746297304354101679 : True := trivial
theorem head.tw1425459126675767727 : True := trivial
theorem head.tw15181326774706428367 : True := trivial
theorem head.tw8626486368039343599 : True := trivial
theorem head.tw16714887947964762639 : True := trivial
theorem head.tw7627683417492964911 : True := trivial
theorem head.tw5515381820778694223 : True := trivial
theorem head.tw15564447279633807951 : True := trivial
theorem head.tw14364637388885140079 : True := trivial
theorem head.tw5617373736292572815 : True := trivial
theorem head.tw7624658959004494543 : True := trivial
theorem head.tw11715283913529211631 : True := trivial
theorem head.tw17173436117698932495 : True := trivial
theorem head.tw9196398404247428943 : True := trivial
theorem head.tw2705560170217086799 : True := trivial
theorem head.tw6930615606355531631 : True := trivial
theorem head.tw12032222614953749359 : True := trivial
theorem head.tw10340462753498674063 : True := trivial
theorem head.tw16997897962222511 : True := trivial
theorem head.tw13390592898632580015 : True := trivial
theorem head.tw4433315090154635215 : True := trivial
theorem head.tw807142644699662319 : True := trivial
theorem head.tw18282902561792777199 : True := trivial
theorem head.tw5651425540991249520 : True := trivial
theorem head.tw12741294794224977040 : True := trivial
theorem head.tw12604462930493870256 : True := trivial
theorem head.tw12695399030622205104 : True := trivial
theorem head.tw3185377453876500656 : True := trivial
theorem head.tw14492117785962260688 : True := trivial
theorem head.tw13337238644230332656 : True := trivial
theorem head.tw10510183946089719056 : True := trivial
theorem head.tw3861445983268663568 : True := trivial
theorem head.tw16782820856776367440 : True := trivial
theorem head.tw796810460084151664 : True := trivial
theorem head.tw10205793480724240784 : True := trivial
theorem head.tw15095179193122606544 : True := trivial
theorem head.tw1463646239528298992 : True := trivial
theorem head.tw7313386461004707312 : True := trivial
theorem head.tw5737951250597237232 : True := trivial
theorem head.tw2661039320868540944 : True := trivial
theorem head.tw14028522991509751376 : True := trivial
theorem head.tw15779500811904541264 : True := trivial
theorem head.tw6847273489543275152 : True := trivial
theorem head.tw3453547403478019728 : True := trivial
theorem head.tw13504307299585405616 : True := trivial
theorem head.tw13246386896891170512 : True := trivial
theorem head.tw14969385696402013904 : True := trivial
theorem head.tw17646911460466567920 : True := trivial
theorem head.tw14759185912286986992 : True := trivial
theorem head.tw2545145822199252752 : True := trivial
theorem head.tw6870361546347238192 : True := trivial
theorem head.tw12212823987433534256 : True := trivial
theorem head.tw10400636543074173776 : True := trivial
theorem head.tw17275705279478898512 : True := trivial
theorem head.tw4691952243595246448 : True := trivial
theorem head.tw10872037306656784433 : True := trivial
theorem head.tw1643771367246577777 : True := trivial
theorem head.tw11770459041652445329 : True := trivial
theorem head.tw17197444120159719569 : True := trivial
theorem head.tw5319049981483164881 : True := trivial
theorem head.tw12822298378996975857 : True := trivial
theorem head.tw7734086686654790897 : True := trivial
theorem head.tw9987851973559822609 : True := trivial
theorem head.tw17173245716831642929 : True := trivial
theorem head.tw16917608666046251313 : True := trivial
theorem head.tw11124748197601291601 : True := trivial
theorem head.tw67086481866811729 : True := trivial
theorem head.tw4063747431996464497 : True := trivial
theorem head.tw3928599903575798129 : True := trivial
theorem head.tw5111174896325423537 : True := trivial
theorem head.tw8264559056461403633 : True := trivial
theorem head.tw12095829319087573521 : True := trivial
theorem head.tw12949380547846470161 : True := trivial
theorem head.tw7789450098604059249 : True := trivial
theorem head.tw14628233357713752721 : True := trivial
theorem head.tw16864245203490835121 : True := trivial
theorem head.tw16579250180923337425 : True := trivial
theorem head.tw6585138550035349233 : True := trivial
theorem head.tw11704837465938651953 : True := trivial
theorem head.tw9802980913210911633 : True := trivial
theorem head.tw16966009324859112401 : True := trivial
theorem head.tw11925700103697007601 : True := trivial
theorem head.tw13478637309914159250 : True := trivial
theorem head.tw2625984366357065906 : True := trivial
theorem head.tw2506711637615833298 : True := trivial
theorem head.tw2599346099135257874 : True := trivial
theorem head.tw10317212456122042642 : True := trivial
theorem head.tw17008234436448823602 : True := trivial
theorem head.tw14531177953140590962 : True := trivial
theorem head.tw9202431907968578930 : True := trivial
theorem head.tw11485113708198979986 : True := trivial
theorem head.tw1687793838685487538 : True := trivial
theorem head.tw13585267454733459922 : True := trivial
theorem head.tw7604411431414283762 : True := trivial
theorem head.tw17262968490309938674 : True := trivial
theorem head.tw16272097951300814418 : True := trivial
theorem head.tw11575215950464049746 : True := trivial
theorem head.tw8451290768687142514 : True := trivial
theorem head.tw3321875119742208626 : True := trivial
theorem head.tw3821945547825155762 : True := trivial
theorem head.tw10748227973586771634 : True := trivial
theorem head.tw15256841493749336786 : True := trivial
theorem head.tw1714602735852981970 : True := trivial
theorem head.tw2441957057352720082 : True := trivial
theorem head.tw15091486752826498866 : True := trivial
theorem head.tw10730805705081004914 : True := trivial
theorem head.tw2201313380682377074 : True := trivial
theorem head.tw8815353094830122866 : True := trivial
theorem head.tw7358512011923840914 : True := trivial
theorem head.tw12892129938458570674 : True := trivial
theorem head.tw17265401458761052179 : True := trivial
theorem head.tw3512634313551410195 : True := trivial
theorem head.tw9145527808636388435 : True := trivial
theorem head.tw12856577281151766611 : True := trivial
theorem head.tw7940748693946456147 : True := trivial
theorem head.tw14909605222495392915 : True := trivial
theorem head.tw7148437315225170067 : True := trivial
theorem head.tw11434997419882176723 : True := trivial
theorem head.tw2518057956044344595 : True := trivial
theorem head.tw3944913497352057107 : True := trivial
theorem head.tw5104563664521345299 : True := trivial
theorem head.tw5844781237557850387 : True := trivial
theorem head.tw4709128311485490483 : True := trivial
theorem head.tw8671685427711848851 : True := trivial
theorem head.tw6737735255597943219 : True := trivial
theorem head.tw16278871845796110771 : True := trivial
theorem head.tw1919890906376249811 : True := trivial
theorem head.tw9702098958229961203 : True := trivial
theorem head.tw12339793173418651155 : True := trivial
theorem head.tw6174258528820157971 : True := trivial
theorem head.tw6298033893332097587 : True := trivial
theorem head.tw708152393587867187 : True := trivial
theorem head.tw2797894973233656403 : True := trivial
theorem head.tw10105583180162433683 : True := trivial
theorem head.tw13689084217373910675 : True := trivial
theorem head.tw4857777746444614323 : True := trivial
theorem head.tw7207604054439252787 : True := trivial
theorem head.tw16226220715811633075 : True := trivial
theorem head.tw8425611671269686227 : True := trivial
theorem head.tw7365368072728555507 : True := trivial
theorem head.tw6402496994288996404 : True := trivial
theorem head.tw6880043348581005364 : True := trivial
theorem head.tw15656768269340197940 : True := trivial
theorem head.tw17287069475806534740 : True := trivial
theorem head.tw5797013207949663412 : True := trivial
theorem head.tw12398312691204496596 : True := trivial
theorem head.tw6871339299614917876 : True := trivial
theorem head.tw12244833863542804788 : True := trivial
theorem head.tw8546719886708726068 : True := trivial
theorem head.tw6307057079134178644 : True := trivial
theorem head.tw2035680199648653684 : True := trivial
theorem head.tw6426539377367359892 : True := trivial
theorem head.tw6474009502463322548 : True := trivial
theorem head.tw17958272820484234708 : True := trivial
theorem head.tw8569104457590258164 : True := trivial
theorem head.tw377444749377882612 : True := trivial
theorem head.tw3715144110773694964 : True := trivial
theorem head.tw13637325136056909300 : True := trivial
theorem head.tw17346037399652195860 : True := trivial
theorem head.tw4009957668330374740 : True := trivial
theorem head.tw2907111362388958804 : True := trivial
theorem head.tw17002534310236347988 : True := trivial
theorem head.tw1937370526825066196 : True := trivial
theorem head.tw7748693106545578708 : True := trivial
theorem head.tw2400818531096893172 : True := trivial
theorem head.tw15895551434495452948 : True := trivial
theorem head.tw1832916270232011604 : True := trivial
theorem head.tw3986194592780655508 : True := trivial
theorem head.tw1389810093214676884 : True := trivial
theorem head.tw2350586252961548244 : True := trivial
theorem head.tw2249667046024356820 : True := trivial
theorem head.tw5874639182527098836 : True := trivial
theorem head.tw13335025841360890868 : True := trivial
theorem head.tw5638995163158488052 : True := trivial
theorem head.tw1472379273497163797 : True := trivial
theorem head.tw12364624919760631829 : True := trivial
theorem head.tw6053349399257934933 : True := trivial
theorem head.tw6684681932595197013 : True := trivial
theorem head.tw6085824867444503733 : True := trivial
theorem head.tw5182153607120983317 : True := trivial
theorem head.tw2994366008111725845 : True := trivial
theorem head.tw16472945084836616533 : True := trivial
theorem head.tw4976181008148175253 : True := trivial
theorem head.tw3254172550106833301 : True := trivial
theorem head.tw3212073173673764245 : True := trivial
theorem head.tw18060483585939721653 : True := trivial
theorem head.tw5141578139466067413 : True := trivial
theorem head.tw12074249297620881909 : True := trivial
theorem head.tw18433677622606106133 : True := trivial
theorem head.tw7509614706227349109 : True := trivial
theorem head.tw1224924573807776437 : True := trivial
theorem head.tw4885112425497105109 : True := trivial
theorem head.tw5438144065070405397 : True := trivial
theorem head.tw12147184966966947637 : True := trivial
theorem head.tw12043669396524033845 : True := trivial
theorem head.tw17508272824862286709 : True := trivial
theorem head.tw9601497413559074677 : True := trivial
theorem head.tw90575161674971029 : True := trivial
theorem head.tw5501060405047882677 : True := trivial
theorem head.tw15978427065635505109 : True := trivial
theorem head.tw4972248218790579157 : True := trivial
theorem head.tw5508695066786827253 : True := trivial
theorem head.tw7044984988248179734 : True := trivial
theorem head.tw11544532188706048022 : True := trivial
theorem head.tw9716329373054682134 : True := trivial
theorem head.tw11484797826999851062 : True := trivial
theorem head.tw17194126546080390198 : True := trivial
theorem head.tw8159583801465064534 : True := trivial
theorem head.tw322437386772585718 : True := trivial
theorem head.tw15250023729529759990 : True := trivial
theorem head.tw9107825763807709430 : True := trivial
theorem head.tw18331334602107656470 : True := trivial
theorem head.tw17522360388414511382 : True := trivial
theorem head.tw5612995960945425718 : True := trivial
theorem head.tw10865165270600546614 : True := trivial
theorem head.tw8610661140672950678 : True := trivial
theorem head.tw17552560543380974038 : True := trivial
theorem head.tw12352672977532951062 : True := trivial
theorem head.tw16065720564569863766 : True := trivial
theorem head.tw12851702773856589430 : True := trivial
theorem head.tw11427066125472700054 : True := trivial
theorem head.tw17014734716931888790 : True := trivial
theorem head.tw13249071542605338262 : True := trivial
theorem head.tw532055438628499158 : True := trivial
theorem head.tw15785421084128741142 : True := trivial
theorem head.tw9133290819911140118 : True := trivial
theorem head.tw14112051064653734678 : True := trivial
theorem head.tw16521360213685165878 : True := trivial
theorem head.tw15539854500240908086 : True := trivial
theorem head.tw14842460003800876886 : True := trivial
theorem head.tw2413573451304230806 : True := trivial
theorem head.tw12205659690895024086 : True := trivial
theorem head.tw604627371996746742 : True := trivial
theorem head.tw12427710115714267126 : True := trivial
theorem head.tw2172669909848549399 : True := trivial
theorem head.tw10457615780465708087 : True := trivial
theorem head.tw17188972718952451159 : True := trivial
theorem head.tw17017319662998615 : True := trivial
theorem head.tw6247268493268985975 : True := trivial
theorem head.tw5751227541892866231 : True := trivial
theorem head.tw1315816938146588887 : True := trivial
theorem head.tw7287109101882759415 : True := trivial
theorem head.tw13653928888864918839 : True := trivial
theorem head.tw12858780395421280599 : True := trivial
theorem head.tw14427283581363961175 : True := trivial
theorem head.tw12630350610049390935 : True := trivial
theorem head.tw9065935926736091543 : True := trivial
theorem head.tw12903917746401883607 : True := trivial
theorem head.tw11338825007792423415 : True := trivial
theorem head.tw9449176361245260279 : True := trivial
theorem head.tw13379354915994877463 : True := trivial
theorem head.tw6836605351468522007 : True := trivial
theorem head.tw497287684792784471 : True := trivial
theorem head.tw12214093580764582487 : True := trivial
theorem head.tw4163069186122357367 : True := trivial
theorem head.tw14235953900361662071 : True := trivial
theorem head.tw1939405473400901271 : True := trivial
theorem head.tw13002585709282622103 : True := trivial
theorem head.tw11290360913936777911 : True := trivial
theorem head.tw12063515681119412919 : True := trivial
theorem head.tw6604829842348296887 : True := trivial
theorem head.tw9827913525700040407 : True := trivial
theorem head.tw7960053054240918295 : True := trivial
theorem head.tw15112835437128306455 : True := trivial
theorem head.tw4307260679431091991 : True := trivial
theorem head.tw13137911371727378231 : True := trivial
theorem head.tw8627200689577751383 : True := trivial
theorem head.tw8874674299285249911 : True := trivial
theorem head.tw9984397402777080727 : True := trivial
theorem head.tw15510365090734361527 : True := trivial
theorem head.tw11857307637417881527 : True := trivial
theorem head.tw8534208459206503383 : True := trivial
theorem head.tw7704315382344345624 : True := trivial
theorem head.tw1970811146720035896 : True := trivial
theorem head.tw1438866918597655640 : True := trivial
theorem head.tw14344768424176206936 : True := trivial
theorem head.tw5353729903917744248 : True := trivial
theorem head.tw6507506987150044280 : True := trivial
theorem head.tw15798066900824788120 : True := trivial
theorem head.tw2876011056497122456 : True := trivial
theorem head.tw13942192884097748152 : True := trivial
theorem head.tw14615432700455777464 : True := trivial
theorem head.tw10668533816033670360 : True := trivial
theorem head.tw17371765431496345816 : True := trivial
theorem head.tw14195316510222423288 : True := trivial
theorem head.tw9325123708862168440 : True := trivial
theorem head.tw8035625575855466936 : True := trivial
theorem head.tw10736139440505347576 : True := trivial
theorem head.tw15296082917334920728 : True := trivial
theorem head.tw7013799640231393816 : True := trivial
theorem head.tw2007852463679175192 : True := trivial
theorem head.tw13703160086215059000 : True := trivial
theorem head.tw17553620660974883448 : True := trivial
theorem head.tw6562009823351158392 : True := trivial
theorem head.tw17768545326873755256 : True := trivial
theorem head.tw13199516396595161752 : True := trivial
theorem head.tw2393937325987436248 : True := trivial
theorem head.tw9353324838224930552 : True := trivial
theorem head.tw15841401105113185080 : True := trivial
theorem head.tw17464823870196871000 : True := trivial
theorem head.tw17362218986543327160 : True := trivial
theorem head.tw15666658371737129944 : True := trivial
theorem head.tw16962450398199861240 : True := trivial
theorem head.tw15039987702171664376 : True := trivial
theorem head.tw649443455394278489 : True := trivial
theorem head.tw6207834228037699737 : True := trivial
theorem head.tw16083886269967319321 : True := trivial
theorem head.tw7712916153251135833 : True := trivial
theorem head.tw4407807290196491609 : True := trivial
theorem head.tw6587087628758450585 : True := trivial
theorem head.tw6079359036626576793 : True := trivial
theorem head.tw13954853420313727417 : True := trivial
theorem head.tw4235852798576303577 : True := trivial
theorem head.tw14682210665186182649 : True := trivial
theorem head.tw9368406320212774489 : True := trivial
theorem head.tw17444863063712431705 : True := trivial
theorem head.tw18100283295969611417 : True := trivial
theorem head.tw6836608696283027097 : True := trivial
theorem head.tw6791874446421159577 : True := trivial
theorem head.tw17782148633632673465 : True := trivial
theorem head.tw12682429181067543257 : True := trivial
theorem head.tw3746228215898030841 : True := trivial
theorem head.tw6763335052953634553 : True := trivial
theorem head.tw9407594320385231609 : True := trivial
theorem head.tw12611893724949602041 : True := trivial
theorem head.tw11821203517306503961 : True := trivial
theorem head.tw13381877923881390905 : True := trivial
theorem head.tw5274623360512300857 : True := trivial
theorem head.tw17304152732226823993 : True := trivial
theorem head.tw6931653728971238233 : True := trivial
theorem head.tw10948677003083999065 : True := trivial
theorem head.tw5599997604879368025 : True := trivial
theorem head.tw15735840784391694233 : True := trivial
theorem head.tw9213911765573242809 : True := trivial
theorem head.tw3556061257289618393 : True := trivial
theorem head.tw14744981736328886265 : True := trivial
theorem head.tw9214367901419015226 : True := trivial
theorem head.tw1718890006036334650 : True := trivial
theorem head.tw15204471325056678010 : True := trivial
theorem head.tw18260194641540637818 : True := trivial
theorem head.tw8337448324364255386 : True := trivial
theorem head.tw5723944856813171866 : True := trivial
theorem head.tw1489404036187247834 : True := trivial
theorem head.tw11597336398036118778 : True := trivial
theorem head.tw11296743742662292762 : True := trivial
theorem head.tw2237326684586592538 : True := trivial
theorem head.tw6696598090771571994 : True := trivial
theorem head.tw5092371620264689978 : True := trivial
theorem head.tw17826015225549371706 : True := trivial
theorem head.tw4273228799998304602 : True := trivial
theorem head.tw4947412792043415962 : True := trivial
theorem head.tw2681166955253090778 : True := trivial
theorem head.tw15326552575505426906 : True := trivial
theorem head.tw12775505166333009402 : True := trivial
theorem head.tw11437110226873219610 : True := trivial
theorem head.tw10333954764705244698 : True := trivial
theorem head.tw9553506758532729402 : True := trivial
theorem head.tw11724780754615379514 : True := trivial
theorem head.tw6327039764776113722 : True := trivial
theorem head.tw9186546921256032858 : True := trivial
theorem head.tw14061139507663348314 : True := trivial
theorem head.tw17694210980959083098 : True := trivial
theorem head.tw13198292447841614426 : True := trivial
theorem head.tw4023466491090337370 : True := trivial
theorem head.tw5401097623525119610 : True := trivial
theorem head.tw8476099583838051002 : True := trivial
theorem head.tw5901594920499545818 : True := trivial
theorem head.tw7906546307943345882 : True := trivial
theorem head.tw12207028300977255130 : True := trivial
theorem head.tw8988664977312594650 : True := trivial
theorem head.tw1852205218256702202 : True := trivial
theorem head.tw3869590956505411354 : True := trivial
theorem head.tw9909477652473797434 : True := trivial
theorem head.tw13687475568465949530 : True := trivial
theorem head.tw6846597200999610202 : True := trivial
theorem head.tw11988142204041823098 : True := trivial
theorem head.tw12201952087667049370 : True := trivial
theorem head.tw9777900189565919194 : True := trivial
theorem head.tw44622916816846810 : True := trivial
theorem head.tw742351954350328859 : True := trivial
theorem head.tw1858156416291392539 : True := trivial
theorem head.tw779419810087314491 : True := trivial
theorem head.tw4387028780061031483 : True := trivial
theorem head.tw11613311375368785083 : True := trivial
theorem head.tw6100774026682323163 : True := trivial
theorem head.tw8912104118211102971 : True := trivial
theorem head.tw17541063381433097499 : True := trivial
theorem head.tw3973953319845086491 : True := trivial
theorem head.tw6600165084710513979 : True := trivial
theorem head.tw13227620805987009915 : True := trivial
theorem head.tw15832300201269216667 : True := trivial
theorem head.tw10840385229135970747 : True := trivial
theorem head.tw9978949632667528635 : True := trivial
theorem head.tw4945251732147069371 : True := trivial
theorem head.tw3715584954343283195 : True := trivial
theorem head.tw8382746154173761051 : True := trivial
theorem head.tw12120646240234225243 : True := trivial
theorem head.tw12987040726578829979 : True := trivial
theorem head.tw930087139818521243 : True := trivial
theorem head.tw1626232751844553403 : True := trivial
theorem head.tw466721876749952763 : True := trivial
theorem head.tw1061700454162486011 : True := trivial
theorem head.tw1618804561499322139 : True := trivial
theorem head.tw1919001801439425371 : True := trivial
theorem head.tw17190349231170142043 : True := trivial
theorem head.tw15493778577238641531 : True := trivial
theorem head.tw10898857373019930491 : True := trivial
theorem head.tw2203363585012173787 : True := trivial
theorem head.tw15330342782969278459 : True := trivial
theorem head.tw11052631288978436188 : True := trivial
theorem head.tw14882813523228863612 : True := trivial
theorem head.tw4389056084150536348 : True := trivial
theorem head.tw9297382265435449532 : True := trivial
theorem head.tw5140934472235413692 : True := trivial
theorem head.tw573967197379146972 : True := trivial
theorem head.tw14740928361383774428 : True := trivial
theorem head.tw7688317290187622652 : True := trivial
theorem head.tw12242153458792446204 : True := trivial
theorem head.tw693309671712327132 : True := trivial
theorem head.tw1082313596108445148 : True := trivial
theorem head.tw6272251169252508156 : True := trivial
theorem head.tw2973143901146584636 : True := trivial
theorem head.tw14646466228836335164 : True := trivial
theorem head.tw10015159338476511836 : True := trivial
theorem head.tw10467814448475477596 : True := trivial
theorem head.tw16894561301568121468 : True := trivial
theorem head.tw6260244149815935644 : True := trivial
theorem head.tw1728724042893426364 : True := trivial
theorem head.tw10062970787820224252 : True := trivial
theorem head.tw2760189568479381244 : True := trivial
theorem head.tw8299393411229908732 : True := trivial
theorem head.tw2581250870941146908 : True := trivial
theorem head.tw10875119458065257276 : True := trivial
theorem head.tw6889739017440866108 : True := trivial
theorem head.tw16031315777459398524 : True := trivial
theorem head.tw12428389735305899900 : True := trivial
theorem head.tw3333069708870698940 : True := trivial
theorem head.tw1291722185910714397 : True := trivial
theorem head.tw6692803169904595997 : True := trivial
theorem head.tw8773370040425892893 : True := trivial
theorem head.tw7494366503370351645 : True := trivial
theorem head.tw13988103294471073821 : True := trivial
theorem head.tw1214346256449528893 : True := trivial
theorem head.tw5038994553942263901 : True := trivial
theorem head.tw14586503196746008701 : True := trivial
theorem head.tw16823310710954124413 : True := trivial
theorem head.tw4252214164695015613 : True := trivial
theorem head.tw4239589573987675453 : True := trivial
theorem head.tw10371985647062452541 : True := trivial
theorem head.tw11714945338242495837 : True := trivial
theorem head.tw18277060748420158845 : True := trivial
theorem head.tw17297054508065495485 : True := trivial
theorem head.tw1995287165650055613 : True := trivial
theorem head.tw9280153536138602973 : True := trivial
theorem head.tw5697773043789114877 : True := trivial
theorem head.tw7253898381062576733 : True := trivial
theorem head.tw17142359554024780413 : True := trivial
theorem head.tw7119846925741900413 : True := trivial
theorem head.tw13510609219080548989 : True := trivial
theorem head.tw16800043278716471037 : True := trivial
theorem head.tw1858285994304674589 : True := trivial
theorem head.tw527386997569798941 : True := trivial
theorem head.tw10987702880554017565 : True := trivial
theorem head.tw15967466079928408925 : True := trivial
theorem head.tw733406405333840765 : True := trivial
theorem head.tw4576125674228380541 : True := trivial
theorem head.tw10812213935944405949 : True := trivial
theorem head.tw16903022960794457021 : True := trivial
theorem head.tw2781723093108153277 : True := trivial
theorem head.tw15501141472565082077 : True := trivial
theorem head.tw6772502638888315869 : True := trivial
theorem head.tw140066278072042493 : True := trivial
theorem head.tw13295774097974887486 : True := trivial
theorem head.tw4528443807372415038 : True := trivial
theorem head.tw16582591585412914238 : True := trivial
theorem head.tw17854890406432584798 : True := trivial
theorem head.tw14513887754847984766 : True := trivial
theorem head.tw2491421050496283774 : True := trivial
theorem head.tw7846308304327970078 : True := trivial
theorem head.tw12475708393154427166 : True := trivial
theorem head.tw5129340602016612638 : True := trivial
theorem head.tw17243387458012846398 : True := trivial
theorem head.tw3651205649096709438 : True := trivial
theorem head.tw8895791426145780158 : True := trivial
theorem head.tw7758381527925395934 : True := trivial
theorem head.tw17039324001796647390 : True := trivial
theorem head.tw4543076655600059902 : True := trivial
theorem head.tw11893822550167381502 : True := trivial
theorem head.tw3368474557548986910 : True := trivial
theorem head.tw16106133796442146334 : True := trivial
theorem head.tw15604011560834605598 : True := trivial
theorem head.tw15838623164411332158 : True := trivial
theorem head.tw16821450928103126590 : True := trivial
theorem head.tw7992697801930647134 : True := trivial
theorem head.tw45052839361067614 : True := trivial
theorem head.tw4134303489771756190 : True := trivial
theorem head.tw3364305129493290686 : True := trivial
theorem head.tw14205479233844494046 : True := trivial
theorem head.tw16166440364842034014 : True := trivial
theorem head.tw4154363929692500862 : True := trivial
theorem head.tw11063524718261073790 : True := trivial
theorem head.tw17700853532424174462 : True := trivial
theorem head.tw3547030090768783262 : True := trivial
theorem head.tw10510622979536455646 : True := trivial
theorem head.tw10504981510240967646 : True := trivial
theorem head.tw6857060684267632606 : True := trivial
theorem head.tw11194998557105285118 : True := trivial
theorem head.tw13078646160514809887 : True := trivial
theorem head.tw7181452741857391679 : True := trivial
theorem head.tw17348764703882912863 : True := trivial
theorem head.tw14393718171448925343 : True := trivial
theorem head.tw4381510469713062047 : True := trivial
theorem head.tw14417885227837004991 : True := trivial
theorem head.tw16446913148795680959 : True := trivial
theorem head.tw8997269238129315039 : True := trivial
theorem head.tw3880867118405822719 : True := trivial
theorem head.tw10066793327743970655 : True := trivial
theorem head.tw16385634705727604063 : True := trivial
theorem head.tw9114333099845857663 : True := trivial
theorem head.tw8758324158161630591 : True := trivial
theorem head.tw16871623187472473471 : True := trivial
theorem head.tw17889261914703972767 : True := trivial
theorem head.tw15263674166054382079 : True := trivial
theorem head.tw10170068340998493759 : True := trivial
theorem head.tw10261356005730403935 : True := trivial
theorem head.tw10079960370226730655 : True := trivial
theorem head.tw4932745802714450591 : True := trivial
theorem head.tw12024539317367501503 : True := trivial
theorem head.tw3749026756887285471 : True := trivial
theorem head.tw10519217271611395807 : True := trivial
theorem head.tw17380206448927093471 : True := trivial
theorem head.tw15794997505209512671 : True := trivial
theorem head.tw533756555076263647 : True := trivial
theorem head.tw10070411193226618655 : True := trivial
theorem head.tw8497721794823489343 : True := trivial
theorem head.tw1971652810694446911 : True := trivial
theorem head.tw174166394780034911 : True := trivial
theorem head.tw14631705268626504575 : True := trivial
theorem head.tw14720509044617813951 : True := trivial
theorem head.tw10005452208157733855 : True := trivial
theorem head.tw5869485362099743711 : True := trivial
theorem head.tw3501597964444990463 : True := trivial
theorem head.tw8518231567759158271 : True := trivial
theorem head.tw14286463459230410104 : True := trivial
local macro_rules | `(tactic| walk_at "mine fn") => `(tactic| exact ⟨_, _, _, _, _, _, by k_is, by k_is⟩)
local macro_rules | `(tactic| walk_at "mine g") => `(tactic| exact ⟨_, by k_is, by walk_at "mine fn", by k_is⟩)
local macro_rules | `(tactic| walk_at "mine m") => `(tactic| exact ⟨_, ⟨by k_is, by k_is, by k_is, by k_is, by k_is⟩, by walk_at "mine fn"⟩)
local macro_rules | `(tactic| walk_at "mine i") => `(tactic| exact ⟨_, by k_is, by k_is, by walk_at "mine fn"⟩)
local macro_rules | `(tactic| walk_at "mine c") => `(tactic| exact ⟨by k_is, by k_is, by k_is⟩)
local macro_rules | `(tactic| walk_at "mine f") => `(tactic| exact ⟨⟨by k_is, by k_is, ⟨_, by k_is, by k_is⟩⟩, ⟨by k_is, by k_is, by k_is, by k_is⟩⟩)
local macro_rules | `(tactic| walk_at "mine b") => `(tactic| (show nsIn _ _ _ = _; k_is))
set_option Elab.async true
set_option maxHeartbeats 4000000 in
theorem head : PySem.Challenge.rw_nz0256_01.Holds := by
  (w_on; o_law; k_head; (case hw => w_witness2))
  k_fill
  intro w s₀ s₁ mg mb G Y fa o pm cd doc dV kV ho hd hcd hD hmg hg args vals as hpre hlay hrd hwl hlo
  have KX := kIn_of Y
  clear ho hd hcd hD Y
  refine Ground.open G ?_
  intro T B D TE TW
  clear B D TE TW G
  wrow_args hpre hlay hrd hwl hlo
  refine enter_call ?_
  refine codeAny_mono ?_ (fun _ _ g => GoodW.toG g)
  have hmg' : mg (Str.ofString "law") = some (.ref fa) := hmg
  clear hmg
  refine finish T KX hmg' (by assumption) (by assumption) hg ?_
  clear KX T
  generalize w.params = P
  refine' facts_of ?qb ?qp ?qblk ?qd ?qz ?qf ?qg ?qh1 ?qh2 ?qh3 ?qh4 ?qh5 ?qh6 ?qy ?ql
  case qb => exact ⟨by walk_at "mine b", by walk_at "mine b", by walk_at "mine b", by walk_at "mine b", by walk_at "mine b", by walk_at "mine b", by walk_at "mine b", by walk_at "mine b"⟩
  case qp => exact ⟨by walk_at "mine c", by walk_at "mine i", by walk_at "mine m", by walk_at "mine f", by walk_at "mine f", by walk_at "mine f", by walk_at "mine g"⟩
  case qblk => walk_at "mine g"
  case qd => exact ⟨by walk_at "mine g", by walk_at "mine c", by k_is, by walk_at "mine m", by walk_at "mine m", by walk_at "mine m", by walk_at "mine c", by k_is, by walk_at "mine m", by walk_at "mine m", by walk_at "mine g", by walk_at "mine g", by walk_at "mine g"⟩
  case qz => exact fun b => ⟨b, by walk_at "mine g", by walk_at "mine g", by walk_at "mine g", by walk_at "mine g", by walk_at "mine g", by walk_at "mine g"⟩
  case qf => exact fun b => ⟨b, by walk_at "mine g", by walk_at "mine c", by walk_at "mine i", by walk_at "mine f", by walk_at "mine f", by walk_at "mine f", by walk_at "mine f", by walk_at "mine c", by walk_at "mine i", by walk_at "mine f", by walk_at "mine f", by walk_at "mine f", by walk_at "mine f", by walk_at "mine f", by walk_at "mine f", by walk_at "mine m", by walk_at "mine m", by walk_at "mine m", by walk_at "mine m", by walk_at "mine m", by walk_at "mine m", by walk_at "mine m"⟩
  case qg => exact ⟨by walk_at "mine c", by walk_at "mine i", by walk_at "mine f", by walk_at "mine f", by walk_at "mine m", by walk_at "mine m"⟩
  case qh1 => walk_at "mine g"
  case qh2 => walk_at "mine g"
  case qh3 => walk_at "mine g"
  case qh4 => walk_at "mine g"
  case qh5 => walk_at "mine g"
  case qh6 => k_is
  case qy => exact fun b => ⟨b, by walk_at "mine g", by walk_at "mine g", by walk_at "mine g", by walk_at "mine g", by walk_at "mine g", by walk_at "mine g", by walk_at "mine g"⟩
  case ql => walk_at "mine g"
end Mine
set_option Elab.async false

theorem PySem.Challenge.cw_nz0256_01_holds : PySem.Challenge.rw_nz0256_01.Holds :=
  Mine.head
