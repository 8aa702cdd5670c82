import PyProof.Rows.All
import Wide.All
import OpenK.AllK
import Wide.FinOn
import PySem.Challenge.RW_on0158_01
open PySem PySem.W PyProof.Rows
set_option Elab.async false
set_option maxRecDepth 100000
set_option linter.unusedVariables false
set_option maxHeartbeats 8000000
namespace Mine
open_top hd for PySem.Challenge.rw_on0158_01
end Mine
open PySem.Calls
namespace Mine

abbrev View := Addr → Option Obj
def Sub (g : View) (h : Heap) : Prop := ∀ b o, g b = some o → h.get? b = some o
def Le (g g' : View) : Prop := ∀ b o, g b = some o → g' b = some o
theorem Le.refl (g : View) : Le g g := fun _ _ e => e
theorem Le.trans {a b c : View} (x : Le a b) (y : Le b c) : Le a c := fun p o e => y p o (x p o e)
def View.set (g : View) (a : Addr) (o : Obj) : View := fun b => if b = a then some o else g b
theorem View.set_self (g : View) (a : Addr) (o : Obj) : g.set a o a = some o := by simp [View.set]

abbrev lst (vs : List Value) (n : Nat) : Obj := { cls := .type "list", data := .seq vs.toArray n }
abbrev tup (vs : List Value) (n : Nat) : Obj := { cls := .type "tuple", data := .seq vs.toArray n }
def LV (g : View) (a : Addr) (vs : List Value) : Prop := ∃ n, g a = some (lst vs n)
def TV (g : View) (a : Addr) (vs : List Value) : Prop := ∃ n, g a = some (tup vs n)
theorem LV.mono {g g' : View} {a vs} (x : LV g a vs) (l : Le g g') : LV g' a vs := by obtain ⟨n, e⟩ := x; exact ⟨n, l _ _ e⟩
theorem TV.mono {g g' : View} {a vs} (x : TV g a vs) (l : Le g g') : TV g' a vs := by obtain ⟨n, e⟩ := x; exact ⟨n, l _ _ e⟩
theorem LV.plain {g : View} {h : Heap} {a vs} (x : LV g a vs) (s : Sub g h) : h.PlainList a vs.toArray := by obtain ⟨n, e⟩ := x; exact ⟨n, s _ _ e⟩
theorem LV.isList {g : View} {h : Heap} {a vs} (x : LV g a vs) (s : Sub g h) : h.IsList a vs.toArray := (x.plain s).isList
theorem TV.isTup {g : View} {h : Heap} {a vs} (x : TV g a vs) (s : Sub g h) : IsTup h a vs.toArray := by obtain ⟨n, e⟩ := x; exact ⟨_, s _ _ e, rfl, n, rfl⟩

structure Grow (W : List Addr) (h : Heap) (g : View) (h' : Heap) (g' : View) : Prop where
  le : Le g g'
  fr : ∀ b, g' b ≠ none → g b ≠ none ∨ h.get? b = none
  sub : Sub g' h'
  old : ∀ b x, h.get? b = some x → b ∉ W → h'.get? b = some x
  live : ∀ b ∈ W, h.get? b ≠ none → h'.get? b ≠ none

theorem Grow.gone {W : List Addr} {h h' : Heap} {g g' : View} (G : Grow W h g h' g') {b : Addr} (e : h'.get? b = none) : h.get? b = none := by
  cases e1 : h.get? b with
  | none => rfl
  | some x =>
    by_cases hb : b ∈ W
    · exact absurd e (G.live b hb (by rw [e1]; simp))
    · rw [G.old b x e1 hb] at e; cases e
theorem Grow.refl {W : List Addr} {h : Heap} {g : View} (s : Sub g h) : Grow W h g h g := ⟨Le.refl _, fun _ e => .inl e, s, fun _ _ e _ => e, fun _ _ e => e⟩
theorem Grow.trans {W W' : List Addr} {h₁ h₂ h₃ : Heap} {g₁ g₂ g₃ : View} (x : Grow W h₁ g₁ h₂ g₂) (y : Grow W' h₂ g₂ h₃ g₃) (hw : ∀ b ∈ W', b ∈ W ∨ h₁.get? b = none) : Grow W h₁ g₁ h₃ g₃ where
  le := x.le.trans y.le
  fr := fun b e => by
    rcases y.fr b e with e1 | e1
    · exact x.fr b e1
    · exact .inr (x.gone e1)
  sub := y.sub
  old := fun b o e hb => y.old b o (x.old b o e hb) (fun h => by
    rcases hw b h with h1 | h1
    · exact hb h1
    · rw [h1] at e; cases e)
  live := fun b hb e e3 => x.live b hb e (y.gone e3)

structure Og where
  h : Heap
  g : View
  W : List Addr
  L : Addr

structure St (o : Og) (g : View) (m : Str → Option Value) (mu : List (Addr × List Value)) (h : Heap) : Prop where
  ns : h.Ns o.L m
  gr : Grow o.W o.h o.g h g
  hid : g o.L = none
  mus : ∀ p ∈ mu, h.PlainList p.1 p.2.toArray ∧ g p.1 = none ∧ p.1 ≠ o.L ∧ (o.h.get? p.1 = none ∨ p.1 ∈ o.W)
  nd : (mu.map (·.1)).Nodup

theorem get?_none_ge {h : Heap} {a : Addr} (ha : h.objs.size ≤ a) : h.get? a = none := by
  cases e : h.get? a with
  | none => rfl
  | some o => exact absurd (Heap.lt_size e) (Nat.not_lt.mpr ha)
theorem Sub.fresh {g : View} {h : Heap} (s : Sub g h) {a : Addr} (ha : h.objs.size ≤ a) : g a = none := by
  cases e : g a with
  | none => rfl
  | some o => have e1 := s _ _ e; rw [get?_none_ge ha] at e1; cases e1

theorem push_live {h : Heap} {o : Obj} {b : Addr} (e : h.get? b ≠ none) : (h.push o).get? b ≠ none := by
  cases e1 : h.get? b with
  | none => exact absurd e1 e
  | some x => rw [Heap.get?_push_of_some o e1]; simp
theorem same_live {h h' : Heap} {a b : Addr} (hs : Heap.SameBut a h h') (ha : h'.get? a ≠ none) (e : h.get? b ≠ none) : h'.get? b ≠ none := by
  by_cases hb : b = a
  · subst hb; exact ha
  · rw [hs.2 b hb]; exact e
theorem Heap.Ns.live {h : Heap} {a : Addr} {m : Str → Option Value} (x : h.Ns a m) : h.get? a ≠ none := by obtain ⟨_, _, _, e, _⟩ := x; exact by rw [e]; simp
theorem PlainList.live {h : Heap} {a : Addr} {vs : Array Value} (x : h.PlainList a vs) : h.get? a ≠ none := by obtain ⟨_, e⟩ := x; exact by rw [e]; simp

section
variable {o : Og} {g g' : View} {m m' : Str → Option Value} {mu pre post : List (Addr × List Value)} {h h' : Heap} {a : Addr} {vs vs' : List Value} {ob : Obj}

theorem St.sub (S : St o g m mu h) : Sub g h := S.gr.sub
theorem St.lt (S : St o g m mu h) : o.L < h.objs.size := S.ns.lt
theorem St.allocImm (S : St o g m mu h) (hf : ob.isFreed = false) : St o (g.set h.objs.size ob) m mu (h.push ob) := by
  have hn : g h.objs.size = none := S.sub.fresh (Nat.le_refl _)
  have hL : o.L ≠ h.objs.size := Nat.ne_of_lt S.lt
  refine ⟨S.ns.push _, ⟨fun b x e => ?_, fun b e => ?_, fun b x e => ?_, fun b x e hb => Heap.get?_push_of_some _ (S.gr.old b x e hb), fun b hb e => push_live (S.gr.live b hb e)⟩, by simp [View.set, hL, S.hid], fun p hp => ?_, S.nd⟩
  · show (if b = _ then _ else g b) = _
    by_cases hb : b = h.objs.size
    · subst hb; rw [S.gr.le _ _ e] at hn; cases hn
    · rw [if_neg hb]; exact S.gr.le b x e
  · by_cases hb : b = h.objs.size
    · subst hb; exact .inr (S.gr.gone (get?_none_ge (Nat.le_refl _)))
    · refine S.gr.fr b ?_
      simpa [View.set, hb] using e
  · by_cases hb : b = h.objs.size
    · subst hb; rw [View.set_self] at e; cases e; exact Heap.get?_push_size _ hf
    · refine Heap.get?_push_of_some _ (S.sub b x ?_)
      simpa [View.set, hb] using e
  · obtain ⟨a1, a2, a3, a4⟩ := S.mus p hp
    have hb : p.1 ≠ h.objs.size := by obtain ⟨n, e⟩ := a1; exact Nat.ne_of_lt (Heap.lt_size e)
    exact ⟨a1.at fun o e => Heap.get?_push_of_some _ e, by simp [View.set, hb, a2], a3, a4⟩
theorem Le.set {g : View} {a : Addr} {ob : Obj} (hn : g a = none) : Le g (g.set a ob) := fun b x e => by
  show (if b = a then _ else g b) = _
  by_cases hb : b = a
  · subst hb; rw [hn] at e; cases e
  · rw [if_neg hb]; exact e
theorem St.le_push (S : St o g m mu h) : Le g (g.set h.objs.size ob) := Le.set (S.sub.fresh (Nat.le_refl _))
theorem St.junk (S : St o g m mu h) (ob : Obj) : St o g m mu (h.push ob) :=
  ⟨S.ns.push _, ⟨S.gr.le, S.gr.fr, fun b x e => Heap.get?_push_of_some _ (S.sub b x e), fun b x e hb => Heap.get?_push_of_some _ (S.gr.old b x e hb), fun b hb e => push_live (S.gr.live b hb e)⟩, S.hid,
    fun p hp => let ⟨a1, a2⟩ := S.mus p hp; ⟨a1.at fun o e => Heap.get?_push_of_some _ e, a2⟩, S.nd⟩
theorem St.allocMut (S : St o g m mu h) (vs : List Value) : St o g m ((h.objs.size, vs) :: mu) (h.push (lst vs 0)) := by
  refine ⟨(S.junk _).ns, (S.junk _).gr, S.hid, fun p hp => ?_, ?_⟩
  · rcases List.mem_cons.mp hp with rfl | hp
    · exact ⟨⟨0, Heap.get?_push_size _ rfl⟩, S.sub.fresh (Nat.le_refl _), Nat.ne_of_gt S.lt, .inl (S.gr.gone (get?_none_ge (Nat.le_refl _)))⟩
    · exact (S.junk _).mus p hp
  · rw [List.map_cons]
    refine List.nodup_cons.mpr ⟨fun hm => ?_, S.nd⟩
    obtain ⟨p, hp, e⟩ := List.mem_map.mp hm
    obtain ⟨⟨n, e1⟩, _⟩ := S.mus p hp
    exact Nat.lt_irrefl _ (e ▸ Heap.lt_size e1)
theorem St.store (S : St o g m mu h) (hn : h'.Ns o.L m') (hs : Heap.SameBut o.L h h') (hL : o.L ∈ o.W) : St o g m' mu h' := by
  refine ⟨hn, ⟨S.gr.le, S.gr.fr, fun b x e => hs.extBut b x (fun hb => ?_) (S.sub b x e), fun b x e hb => hs.extBut b x (fun e1 => hb (e1 ▸ hL)) (S.gr.old b x e hb), fun b hb e => same_live hs (Heap.Ns.live hn) (S.gr.live b hb e)⟩, S.hid,
    fun p hp => let ⟨a1, a2, a3, a4⟩ := S.mus p hp; ⟨a1.extBut hs.extBut a3, a2, a3, a4⟩, S.nd⟩
  subst hb; rw [S.hid] at e; cases e
theorem St.upd (S : St o g m (pre ++ (a, vs) :: post) h) (hl : h'.PlainList a vs'.toArray) (hs : Heap.SameBut a h h') : St o g m (pre ++ (a, vs') :: post) h' := by
  obtain ⟨a1, a2, a3, a4⟩ := S.mus (a, vs) (by simp)
  refine ⟨S.ns.sameBut hs (Ne.symm a3), ⟨S.gr.le, S.gr.fr, fun b x e => hs.extBut b x (fun hb => ?_) (S.sub b x e), fun b x e hb => hs.extBut b x (fun e1 => ?_) (S.gr.old b x e hb), fun b hb e => same_live hs (PlainList.live hl) (S.gr.live b hb e)⟩, S.hid, fun p hp => ?_, by simpa using S.nd⟩
  · subst hb; rw [a2] at e; cases e
  · subst e1
    rcases a4 with a4 | a4
    · rw [a4] at e; cases e
    · exact hb a4
  · have nd := S.nd
    simp only [List.map_append, List.map_cons] at nd
    have nd' := List.nodup_append.mp nd
    have h3 := (List.nodup_cons.mp nd'.2.1).1
    have key : p ∈ pre ∨ p ∈ post ∨ p = (a, vs') := by
      rcases List.mem_append.mp hp with h1 | h1
      · exact .inl h1
      · rcases List.mem_cons.mp h1 with h1 | h1
        · exact .inr (.inr h1)
        · exact .inr (.inl h1)
    rcases key with h1 | h1 | rfl
    · obtain ⟨b1, b2, b3, b4⟩ := S.mus p (List.mem_append.mpr (.inl h1))
      refine ⟨b1.extBut hs.extBut (fun e => ?_), b2, b3, b4⟩
      exact nd'.2.2 p.1 (List.mem_map_of_mem h1) a (List.mem_cons_self) e
    · obtain ⟨b1, b2, b3, b4⟩ := S.mus p (List.mem_append.mpr (.inr (List.mem_cons_of_mem _ h1)))
      refine ⟨b1.extBut hs.extBut (fun e => ?_), b2, b3, b4⟩
      exact h3 (e ▸ List.mem_map_of_mem h1)
    · exact ⟨hl, a2, a3, a4⟩
theorem St.drop (S : St o g m (pre ++ (a, vs) :: post) h) : St o g m (pre ++ post) h := by
  refine ⟨S.ns, S.gr, S.hid, fun p hp => S.mus p ?_, ?_⟩
  · rcases List.mem_append.mp hp with h1 | h1
    · exact List.mem_append.mpr (.inl h1)
    · exact List.mem_append.mpr (.inr (List.mem_cons_of_mem _ h1))
  · have nd := S.nd
    rw [List.map_append, List.map_cons] at nd
    rw [List.map_append]
    exact nd.sublist (List.Sublist.append (List.Sublist.refl _) (List.sublist_cons_self _ _))
theorem Grow.hidden {W : List Addr} (G : Grow W h g h' g') {b : Addr} {x : Obj} (e : h.get? b = some x) (e1 : g b = none) : g' b = none := by
  cases e2 : g' b with
  | none => rfl
  | some y =>
    rcases G.fr b (by rw [e2]; simp) with e3 | e3
    · exact absurd e1 e3
    · rw [e3] at e; cases e
theorem St.after (S : St o g m mu h) (G : Grow [] h g h' g') : St o g' m mu h' := by
  have keep : ∀ b x, h.get? b = some x → h'.get? b = some x := fun b x e => G.old b x e (by simp)
  obtain ⟨oL, es, ep, hL, _⟩ := id S.ns
  refine ⟨S.ns.keeps keep, S.gr.trans G (by simp), G.hidden hL S.hid, fun p hp => ?_, S.nd⟩
  obtain ⟨⟨n, b1⟩, b2, b3, b4⟩ := S.mus p hp
  exact ⟨⟨n, keep _ _ b1⟩, G.hidden b1 b2, b3, b4⟩
/-- after a call that changed one list of ours -/
theorem St.after1 (S : St o g m (pre ++ (a, vs) :: post) h) (G : Grow [a] h g h' g') (hl : h'.PlainList a vs'.toArray) : St o g' m (pre ++ (a, vs') :: post) h' := by
  obtain ⟨⟨n, a1⟩, a2, a3, a4⟩ := S.mus (a, vs) (by simp)
  obtain ⟨oL, es, ep, hL, hr⟩ := id S.ns
  have ok : ∀ b, b ≠ a → b ∉ [a] := fun b e => by simp [e]
  refine ⟨⟨oL, es, ep, G.old _ _ hL (ok _ (Ne.symm a3)), hr⟩, S.gr.trans G (fun b hb => ?_), G.hidden hL S.hid, fun p hp => ?_, by simpa using S.nd⟩
  · rw [List.mem_singleton.mp hb]
    exact a4.symm
  · have nd := S.nd
    simp only [List.map_append, List.map_cons] at nd
    have nd' := List.nodup_append.mp nd
    have h3 := (List.nodup_cons.mp nd'.2.1).1
    have key : p ∈ pre ∨ p ∈ post ∨ p = (a, vs') := by
      rcases List.mem_append.mp hp with h1 | h1
      · exact .inl h1
      · rcases List.mem_cons.mp h1 with h1 | h1
        · exact .inr (.inr h1)
        · exact .inr (.inl h1)
    rcases key with h1 | h1 | rfl
    · obtain ⟨⟨n', b1⟩, b2, b3, b4⟩ := S.mus p (List.mem_append.mpr (.inl h1))
      exact ⟨⟨n', G.old _ _ b1 (ok _ fun e => nd'.2.2 p.1 (List.mem_map_of_mem h1) a List.mem_cons_self e)⟩, G.hidden b1 b2, b3, b4⟩
    · obtain ⟨⟨n', b1⟩, b2, b3, b4⟩ := S.mus p (List.mem_append.mpr (.inr (List.mem_cons_of_mem _ h1)))
      exact ⟨⟨n', G.old _ _ b1 (ok _ fun e => h3 (e ▸ List.mem_map_of_mem h1))⟩, G.hidden b1 b2, b3, b4⟩
    · exact ⟨hl, G.hidden a1 a2, a3, a4⟩
end

/-- every state of the walk: the call's own, its heap and its tokens others -/
def sh (s₀ : Shared) (h : Heap) (tk : Nat) : Shared := { s₀ with heap := h, toks := tk }

structure Wd where
  w : World
  loose : List Str
  mean : ExcName → Option Value
  mg : Str → Option Value
  mb : Str → Option Value
noncomputable abbrev KF (Γ : Wd) : Frag := hd.heap_39 Γ.w.params
abbrev Wd.M (Γ : Wd) : Model := model Challenge.rw_on0158_01.row.prog Γ.w
def Wd.On (Γ : Wd) (g : View) : Prop := ∃ hb : Heap, (∀ b o, hb.get? b = some o → g b = some o) ∧ (KF Γ).In hb ∧ Top hd.view_39 Γ.loose Γ.mean Γ.mg Γ.mb hb
theorem Wd.On.mono {Γ : Wd} {g g' : View} (x : Γ.On g) (l : Le g g') : Γ.On g' := by obtain ⟨hb, a, b, c⟩ := x; exact ⟨hb, fun p o e => l _ _ (a p o e), b, c⟩
theorem Wd.On.K {Γ : Wd} {g : View} {h : Heap} (x : Γ.On g) (s : Sub g h) : (KF Γ).In h := by obtain ⟨_, a, b, _⟩ := x; exact b.keeps fun p o e => s _ _ (a p o e)
theorem Wd.On.top {Γ : Wd} {g : View} {h : Heap} (x : Γ.On g) (s : Sub g h) : Top hd.view_39 Γ.loose Γ.mean Γ.mg Γ.mb h := by obtain ⟨_, a, _, c⟩ := x; exact c.keeps fun p o e => s _ _ (a p o e)

def Rm (A : Around) (n : Nat) : Prop := A.handled = none ∧ A.depth + 6 * n < recursionLimit ∧ A.units + 40 * n < cLine
theorem Rm.deeper {A : Around} {n : Nat} {env : Env} (r : Rm A (n + 1)) : Rm (A.deeper env) n := ⟨r.1, by show A.depth + 1 + 6 * n < _; have := r.2.1; lia, by show A.units + 3 + 40 * n < _; have := r.2.2; lia⟩
theorem Rm.le {A : Around} {n k : Nat} (r : Rm A n) (h : k ≤ n := by lia) : Rm A k := ⟨r.1, by have := r.2.1; lia, by have := r.2.2; lia⟩
theorem Rm.depth {A : Around} {n : Nat} (r : Rm A n) : A.depth < recursionLimit := by have := r.2.1; lia
theorem Rm.units {A : Around} {n : Nat} (r : Rm A n) : A.units < cLine := by have := r.2.2; lia
theorem Rm.in1 {A : Around} {n : Nat} (r : Rm A (n + 1)) : Rm A.in1 n := ⟨r.1, by show A.depth + 6 * n < _; have := r.2.1; lia, by show A.units + 1 + 40 * n < _; have := r.2.2; lia⟩

section
variable {Γ : Wd} {A : Around} {E : Value → Shared → Prop} {s₀ : Shared} {hh : Heap} {tk : Nat} {env : Env} {o : Og} {g g' : View} {m : Str → Option Value} {mu pre post : List (Addr × List Value)}
variable {x : Str} {v : Value} {pos : Pos}

-- names
theorem nm {Q : Value → Shared → Prop} (S : St o g m mu hh) (hv : m x = some v) (h : Q v (sh s₀ hh tk)) (hL : env.locals = o.L := by rfl) (hk : env.scope.kind = .function := by rfl) (hl : env.kindOf x = some .local := by rfl) (hd : (x == ("__debug__" : Str)) = false := by decide) :
    wpAny Γ.M A (eval (.Name x pos) env) Q E (sh s₀ hh tk) := wpAny_Name (wpAny_loadName_local (s := sh s₀ hh tk) hk hl (hL ▸ S.ns) hv h) hd
theorem nmG {s : Shared} {Q : Value → Shared → Prop} (O : Γ.On g) (S : Sub g s.heap) (e : nsIn (KF Γ) mainGlobals x = some (some v)) (h : Q v s) (hg : env.globals = mainGlobals := by rfl) (hk : env.scope.kind = .function := by rfl) (hl : env.kindOf x = some .globalImplicit := by rfl) (hd : (x == ("__debug__" : Str)) = false := by decide) :
    wpAny Γ.M A (eval (.Name x pos) env) Q E s :=
  Name_function_global hk hl (loadGlobal_global (env := env) (hg ▸ (O.top S).g) (mg_of (O.K S) (O.top S).g e) h) hd
theorem nmB {s : Shared} {Q : Value → Shared → Prop} (O : Γ.On g) (S : Sub g s.heap) (e : nsIn (KF Γ) mainGlobals x = some none) (hv : bootBuiltins x = some v) (hn : x ≠ "__name__") (h : Q v s) (hg : env.globals = mainGlobals := by rfl) (hb : env.builtins = builtinsNs := by rfl) (hk : env.scope.kind = .function := by rfl) (hl : env.kindOf x = some .globalImplicit := by rfl) (hd : (x == ("__debug__" : Str)) = false := by decide) :
    wpAny Γ.M A (eval (.Name x pos) env) Q E s :=
  Name_function_global hk hl (loadGlobal_builtin (env := env) (hg ▸ (O.top S).g) (mg_none_of (O.K S) (O.top S).g e) (hb ▸ (O.top S).b) (((O.top S).builtins x hn).trans hv) h) hd
theorem stor {Q : Unit → Shared → Prop} (S : St o g m mu hh) (h : ∀ h' tk', St o g (fun y => if y = x then some v else m y) mu h' → Q () (sh s₀ h' tk')) (hW : o.L ∈ o.W := by exact List.mem_cons_self) (hL : env.locals = o.L := by rfl)
    (hl : env.kindOf x = some .local := by rfl) (hp : (env.scope.kind == .class || (env.scope.kind == .module && env.locals != env.globals)) = false := by rfl) : wpAny Γ.M A (storeName env x v) Q E (sh s₀ hh tk) :=
  wpAny_storeName_local (s := sh s₀ hh tk) hl (hL ▸ S.ns) (fun h' hn hs => h h' _ (S.store (hL ▸ hn) (hL ▸ hs) hW)) hp

-- constants, ints
theorem cInt {i : Int} {k : Nat} {Q : Value → Shared → Prop} (h : ∀ t tk', Q (.int i t) (sh s₀ hh tk')) : wpAny Γ.M A (eval (.Constant (.int i) k pos) env) Q E (sh s₀ hh tk) := wpAny_Constant_int (h _ _)
theorem cStr {y : Str} {k : Nat} {Q : Value → Shared → Prop} (h : ∀ t tk', Q (.str y t) (sh s₀ hh tk')) : wpAny Γ.M A (eval (.Constant (.str y) k pos) env) Q E (sh s₀ hh tk) := wpAny_Constant_str (h _ _)
theorem addI {a b : Int} {t u : Tok} {Q : Value → Shared → Prop} (h : ∀ t tk', Q (.int (a + b) t) (sh s₀ hh tk')) : wpAny Γ.M A (binaryOp .Add (.int a t) (.int b u)) Q E (sh s₀ hh tk) := PyProof.Rows.add_int (h _ _)
theorem subI {a b : Int} {t u : Tok} {Q : Value → Shared → Prop} (h : ∀ t tk', Q (.int (a - b) t) (sh s₀ hh tk')) : wpAny Γ.M A (binaryOp .Sub (.int a t) (.int b u)) Q E (sh s₀ hh tk) := PyProof.Rows.sub_int (h _ _)
theorem mulI {a b : Int} {t u : Tok} {Q : Value → Shared → Prop} (hb : -(2 ^ 64) < a ∧ a < 2 ^ 64) (h : ∀ t tk', Q (.int (a * b) t) (sh s₀ hh tk')) : wpAny Γ.M A (binaryOp .Mult (.int a t) (.int b u)) Q E (sh s₀ hh tk) :=
  PyProof.Rows.mul_int (h _ _) (.of_left (intBits_le_64 hb.1 hb.2))
theorem modP {a b : Int} {t u : Tok} {Q : Value → Shared → Prop} (hb : 0 < b) (h : ∀ r t tk', 0 ≤ r → r < b → Q (.int r t) (sh s₀ hh tk')) : wpAny Γ.M A (binaryOp .Mod (.int a t) (.int b u)) Q E (sh s₀ hh tk) :=
  PyProof.Rows.mod_int (by lia) (h _ _ _ (Int.fmod_nonneg_of_pos _ hb) (Int.fmod_lt_of_pos _ hb))
theorem modI {a b : Int} {t u : Tok} {Q : Value → Shared → Prop} (hb : b ≠ 0) (h : ∀ t tk', Q (.int (a.fmod b) t) (sh s₀ hh tk')) : wpAny Γ.M A (binaryOp .Mod (.int a t) (.int b u)) Q E (sh s₀ hh tk) :=
  PyProof.Rows.mod_int hb (h _ _)
theorem divP {a b : Int} {t u : Tok} {Q : Value → Shared → Prop} (hb : 0 < b) (hb2 : b < 1000000000) (ha : 0 ≤ a) (h : ∀ r t tk', 0 ≤ r → Q (.int r t) (sh s₀ hh tk')) : wpAny Γ.M A (binaryOp .FloorDiv (.int a t) (.int b u)) Q E (sh s₀ hh tk) :=
  PyProof.Rows.floordiv_int (by lia) (h _ _ _ (Int.fdiv_nonneg ha (by lia))) (.inl (PyProof.noPylong_small (by omega)))
theorem divI {a b : Int} {t u : Tok} {Q : Value → Shared → Prop} (hb : 0 < b) (hb2 : b < 1000000000) (h : ∀ t tk', Q (.int (a.fdiv b) t) (sh s₀ hh tk')) : wpAny Γ.M A (binaryOp .FloorDiv (.int a t) (.int b u)) Q E (sh s₀ hh tk) :=
  PyProof.Rows.floordiv_int (by lia) (h _ _) (.inl (PyProof.noPylong_small (by omega)))
theorem addS {a b : Str} {t u : Tok} {Q : Value → Shared → Prop} (hz : a.length + b.length ≤ sizeLine) (h : ∀ t tk', Q (.str (a ++ b) t) (sh s₀ hh tk')) : wpAny Γ.M A (binaryOp .Add (.str a t) (.str b u)) Q E (sh s₀ hh tk) := PyProof.Rows.add_str (fun _ _ => h _ _) hz

-- places
theorem getsL {s : Shared} {value slice : Expr} {l : Addr} {vs : List Value} {k : Int} {u : Tok} {x : Value} {Q : Value → Shared → Prop} (hl : s.heap.PlainList l vs.toArray) (h0 : 0 ≤ k) (h1 : k < 2 ^ 63) (hx : vs[k.toNat]? = some x) (h : Q x s)
    (hs : subscripted slice false (.ref l) (.int k u) = operate [.ref l, .int k u] (getItem (.ref l) (.int k u)) := by with_unfolding_all rfl) :
    wpAny Γ.M A (subscriptTail value slice (.ref l) (.int k u)) Q E s :=
  tail_any hl.isList.typeIs slot_list_getitem.lookup (wpAny_getItem_list hl.isList h0 h1 (by simpa using hx) h) hs
theorem getsT {s : Shared} {value slice : Expr} {l : Addr} {vs : List Value} {k : Int} {u : Tok} {x : Value} {Q : Value → Shared → Prop} (hl : IsTup s.heap l vs.toArray) (h0 : 0 ≤ k) (h1 : k < 2 ^ 63) (hx : vs[k.toNat]? = some x) (h : Q x s)
    (hs : subscripted slice false (.ref l) (.int k u) = operate [.ref l, .int k u] (getItem (.ref l) (.int k u)) := by with_unfolding_all rfl) :
    wpAny Γ.M A (subscriptTail value slice (.ref l) (.int k u)) Q E s := by
  have hlt : k.toNat < vs.length := (List.getElem?_eq_some_iff.mp hx).1
  refine item_tupleT (j := k.toNat) hl (by lia) h1 ?_ hx h hs
  unfold seqIndex?
  have hn : ¬ (k < 0) := Int.not_lt.mpr h0
  simp only [hn, if_false]
  rw [if_pos]
  simp only [Bool.and_eq_true, decide_eq_true_eq]
  lia
theorem setItemL {l : Addr} {vs : List Value} {k : Int} {t : Tok} {v : Value} {Q : Unit → Shared → Prop} (hl : hh.PlainList l vs.toArray) (h0 : 0 ≤ k) (hfit : k < 2 ^ 63) (hn : k < vs.length)
    (hQ : ∀ h', h'.PlainList l (vs.set k.toNat v).toArray → Heap.SameBut l hh h' → Q () (sh s₀ h' tk)) :
    wpAny Γ.M A (setItem (.ref l) (.int k t) v) Q E (sh s₀ hh tk) := by
  obtain ⟨ne, ho⟩ := id hl
  have ho' : (sh s₀ hh tk).heap.get? l = some _ := ho
  have hi : (sh s₀ hh tk).heap.IsList l vs.toArray := hl.isList
  unfold setItem
  try with_reducible refine wpAny_holding ?_
  first | refine wpAny_bind (wpAny_pure ?_) | skip
  refine wpAny_bind (wpAny_sequenceKey hi.typeIs (by decide) ?_)
  refine wpAny_bind (wpAny_callSpecial?_slot (name := Str.ofString "__setitem__") hi.typeIs slot_list_setitem
    (wpAny_call_entry slot_list_setitem hi.typeIs entry_list_setitem ?_ (args_list_setitem _ _ _)))
  show wpAny _ _ (Builtin.List.listSubscript? (.int k t) >>= _) _ _ _
  refine wpAny_bind (wpAny_listSubscript_int (fitsIndex_of h0 hfit) ?_)
  clear hfit
  obtain ⟨j, rfl⟩ := Int.eq_ofNat_of_zero_le h0
  have hj : j < vs.toArray.size := by simp; omega
  have hx' : vs.toArray[j]? = some vs.toArray[j] := Array.getElem?_eq_getElem hj
  show wpAny _ _ ((seqItemAt l j >>= fun r => pure (r.map (j, ·))) >>= _) _ _ _
  refine wpAny_bind (wpAny_bind (wpAny_seqItemAt ho' rfl (wpAny_pure ?_)))
  rw [hx']
  show wpAny _ _ (setSeqItemAt l j v >>= _) _ _ _
  have hfin : (hh.update l (Obj.mapSeq (·.setIfInBounds j v))).PlainList l (vs.set j v).toArray :=
    ⟨ne, by rw [Heap.get?_update_self _ ho (by rfl)]; simp [Obj.mapSeq]⟩
  refine wpAny_bind (wpAny_setSeqItemAt ho' rfl ?_)
  first
    | exact wpAny_bind (wpAny_pure (wpAny_pure ⟨.none, rfl, wpAny_pure (hQ _ hfin (Heap.SameBut.update ..))⟩))
    | exact wpAny_pure ⟨.none, rfl, wpAny_pure (hQ _ hfin (Heap.SameBut.update ..))⟩
theorem lenL {l : Addr} {vs : List Value} {Q : Value → Shared → Prop} (hl : hh.PlainList l vs.toArray) (hfit : vs.length < 2 ^ 62) (h : ∀ t tk', Q (.int vs.length t) (sh s₀ hh tk')) : wpAny Γ.M A (call (.builtin "len") [.ref l]) Q E (sh s₀ hh tk) :=
  call_len_list (s := sh s₀ hh tk) hl.isList (by simp; omega) (by rw [List.size_toArray]; exact h _ _)
theorem truthyL {l : Addr} {vs : List Value} {Q : Bool → Shared → Prop} (hl : hh.PlainList l vs.toArray) (hfit : vs.length < 2 ^ 62) (h : ∀ tk', Q (!vs.isEmpty) (sh s₀ hh tk')) : wpAny Γ.M A (truthy (.ref l)) Q E (sh s₀ hh tk) := by
  refine wpAny_truthy_list (s := sh s₀ hh tk) hl.isList (by simp; omega) ?_
  have e : (!vs.toArray.isEmpty) = !vs.isEmpty := by simp
  rw [e]; exact h _
theorem intsAt {vs : List Value} {ns : List Int} {k : Int} (hi : IntsAre vs ns) (h0 : 0 ≤ k) (h : k < (vs.length : Int)) : ∃ n t, vs[k.toNat]? = some (.int n t) := by
  have hl := hi.length
  have hln : k.toNat < ns.length := by omega
  obtain ⟨t, e⟩ := hi.get k.toNat (ns[k.toNat]'hln) (List.getElem?_eq_getElem hln)
  exact ⟨_, t, e⟩
theorem ints_snoc {vs : List Value} {ns : List Int} (h : IntsAre vs ns) (k : Int) (t : Tok) : IntsAre (vs ++ [.int k t]) (ns ++ [k]) := by
  induction h with
  | nil => exact .cons _ _ .nil
  | cons n t' _ ih => exact .cons _ _ ih

-- new objects
theorem newListJ {vs : List Value} {Q : Value → Shared → Prop} (S : St o g m mu hh) (hz : vs.length ≤ 1000) (h : ∀ l h', St o g m mu h' → h'.PlainList l vs.toArray → Q (.ref l) (sh s₀ h' tk)) : wpAny Γ.M A (newList vs) Q E (sh s₀ hh tk) :=
  wpAny_newObj_type (h _ _ (S.junk _) ⟨0, Heap.get?_push_size _ rfl⟩) (by show vs.toArray.size ≤ sizeLine; rw [sizeLine_eq]; simp; lia)
theorem newListI {vs : List Value} {Q : Value → Shared → Prop} (S : St o g m mu hh) (hz : vs.length ≤ 1000) (h : ∀ l h' g', Le g g' → LV g' l vs → St o g' m mu h' → Q (.ref l) (sh s₀ h' tk)) : wpAny Γ.M A (newList vs) Q E (sh s₀ hh tk) :=
  wpAny_newObj_type (h _ _ _ S.le_push ⟨0, View.set_self ..⟩ (S.allocImm rfl)) (by show vs.toArray.size ≤ sizeLine; rw [sizeLine_eq]; simp; lia)
theorem newTupI {vs : List Value} {Q : Value → Shared → Prop} (S : St o g m mu hh) (hz : vs.length ≤ 1000) (h : ∀ l h' g', Le g g' → TV g' l vs → St o g' m mu h' → Q (.ref l) (sh s₀ h' tk)) : wpAny Γ.M A (newTuple vs) Q E (sh s₀ hh tk) :=
  wpAny_newObj_type (h _ _ _ S.le_push ⟨0, View.set_self ..⟩ (S.allocImm rfl)) (by show vs.toArray.size ≤ sizeLine; rw [sizeLine_eq]; simp; lia)
theorem newListM {vs : List Value} {Q : Value → Shared → Prop} (S : St o g m mu hh) (hz : vs.length ≤ 1000) (h : ∀ l h', St o g m ((l, vs) :: mu) h' → Q (.ref l) (sh s₀ h' tk)) : wpAny Γ.M A (newList vs) Q E (sh s₀ hh tk) :=
  wpAny_newObj_type (h _ _ (S.allocMut vs)) (by show vs.toArray.size ≤ sizeLine; rw [sizeLine_eq]; simp; lia)
theorem addL {a b : Addr} {xs ys : List Value} {Q : Value → Shared → Prop} (S : St o g m mu hh) (ha : hh.PlainList a xs.toArray) (hb : hh.PlainList b ys.toArray) (hz : xs.length + ys.length ≤ 1000000)
    (h : ∀ l h' g', Le g g' → LV g' l (xs ++ ys) → St o g' m mu h' → Q (.ref l) (sh s₀ h' tk)) : wpAny Γ.M A (binaryOp .Add (.ref a) (.ref b)) Q E (sh s₀ hh tk) := by
  obtain ⟨n1, e1⟩ := ha
  obtain ⟨n2, e2⟩ := hb
  refine PySem.P.add_list (s := sh s₀ hh tk) (items := xs.toArray) (items2 := ys.toArray) (n := n1) (n2 := n2) e1 e2 ?_ (by rw [sizeLine_eq]; simp; lia)
  have e : ({ cls := .type "list", data := .seq (xs.toArray ++ ys.toArray) } : Obj) = lst (xs ++ ys) 0 := by simp [lst]
  rw [e]
  exact h _ _ _ S.le_push ⟨0, View.set_self ..⟩ (S.allocImm rfl)
theorem St.mu0 {h : Heap} {a : Addr} {vs : List Value} (S : St o g m ((a, vs) :: post) h) : h.PlainList a vs.toArray := (S.mus (a, vs) (by simp)).1
theorem St.mu1 {h : Heap} {a : Addr} {vs : List Value} {p} (S : St o g m (p :: (a, vs) :: post) h) : h.PlainList a vs.toArray := (S.mus (a, vs) (by simp)).1
theorem St.upd0 {h h' : Heap} {a : Addr} {vs vs' : List Value} (S : St o g m ((a, vs) :: post) h) (hl : h'.PlainList a vs'.toArray) (hs : Heap.SameBut a h h') : St o g m ((a, vs') :: post) h' := S.upd (pre := []) hl hs
theorem St.upd1 {h h' : Heap} {a : Addr} {vs vs' : List Value} {p} (S : St o g m (p :: (a, vs) :: post) h) (hl : h'.PlainList a vs'.toArray) (hs : Heap.SameBut a h h') : St o g m (p :: (a, vs') :: post) h' := S.upd (pre := [p]) hl hs

/-- into a def of the text's -/
theorem enter {f : Addr} {name qual : Str} {params : Arguments} {body : List Stmt} {scope : PySem.Scope} {dV kV doc pm cdv ct oc : Value} {an od : Option Addr} {osl : Array (Option Value)} {args : List Value} {binds : List (Str × Value)} {n : Nat} {W : List Addr} {Q : Value → Shared → Prop}
    (O : Γ.On g) (hs : Sub g hh) (r : Rm A n)
    (ho : (KF Γ).lookup f = some ⟨oc, od, .func (fnOf name qual params body scope dV kV doc pm an cdv ct), osl⟩) (hcd : codeIn (KF Γ) cdv qual = true)
    (hbind : BindsTo (sh s₀ hh tk) (fnOf name qual params body scope dV kV doc pm an cdv ct) ⟨args, []⟩ binds)
    (hmu : ∀ p ∈ mu, hh.PlainList p.1 p.2.toArray ∧ g p.1 = none ∧ p.1 ∈ W) (hnd : (mu.map (·.1)).Nodup)
    (hcell : ∀ x ∈ scope.names, x.2 ≠ .cell) (hloc : (binds.all fun x => decide (scope.names.lookup x.1 = some .local)) = true)
    (h : ∀ h₁ tk' L, St ⟨h₁, g, L :: W, L⟩ g (fun x => binds.reverse.lookup x) mu h₁ →
      (∀ {g' m' mu' h'}, St ⟨h₁, g, L :: W, L⟩ g' m' mu' h' → Grow W hh g h' g') →
      wpAny Γ.M (A.deeper (envOf qual scope L f cdv)) (execs body (envOf qual scope L f cdv))
        (fun fl s' => Q (match fl with | .ret v => v | _ => .none) s') (fun _ _ => False) (sh s₀ h₁ tk'))
    (hco : scope.isCoroutine = false := by rfl) (hgen : scope.isGenerator = false := by rfl) (hk : scope.kind = .function := by rfl) :
    wpAny Γ.M A (call (.ref f) args) Q E (sh s₀ hh tk) := by
  have hs' : Sub g (sh s₀ hh tk).heap := hs
  refine wpAny_call (codeAny_call_def (s := sh s₀ hh tk) (fd := fnOf name qual params body scope dV kV doc pm an cdv ct) (body := body) (binds := binds) r.depth ((O.K hs') _ _ ho) rfl (O.top hs').nolimit (codeRec_of (O.K hs') hcd) rfl hbind hcell (locs hloc) (fun h₁ hns hk₁ => ?_) hco hgen hk)
  replace hns : h₁.Ns hh.objs.size fun x => binds.reverse.lookup x := hns
  replace hk₁ : ∀ b o, hh.get? b = some o → h₁.get? b = some o := hk₁
  have S : St ⟨h₁, g, hh.objs.size :: W, hh.objs.size⟩ g (fun x => binds.reverse.lookup x) mu h₁ := by
    refine ⟨hns, Grow.refl fun b x e => hk₁ _ _ (hs _ _ e), hs.fresh (Nat.le_refl _), fun p hp => ?_, hnd⟩
    obtain ⟨⟨n, a1⟩, a2, a3⟩ := hmu p hp
    exact ⟨⟨n, hk₁ _ _ a1⟩, a2, Nat.ne_of_lt (Heap.lt_size a1), .inr (List.mem_cons_of_mem _ a3)⟩
  refine wpAny_mono (h h₁ _ hh.objs.size S fun {g' m' mu' h'} S' => ?_) (fun fl s' hl => ?_) fun _ _ e => e.elim
  · have up : ∀ b, hh.get? b ≠ none → h₁.get? b ≠ none := fun b e => by
      cases e1 : hh.get? b with
      | none => exact absurd e1 e
      | some x => rw [hk₁ _ _ e1]; simp
    refine ⟨S'.gr.le, fun b e => (S'.gr.fr b e).imp id fun e1 => Classical.byContradiction fun e2 => up b e2 e1, S'.sub, fun b x e hb => S'.gr.old b x (hk₁ _ _ e) ?_, fun b hb e => S'.gr.live b (List.mem_cons_of_mem _ hb) (up b e)⟩
    intro hm
    rcases List.mem_cons.mp hm with e1 | e1
    · subst e1; exact absurd (Heap.lt_size e) (Nat.lt_irrefl _)
    · exact hb e1
  · cases fl <;> exact hl

/-- a built-in by its name -/
theorem callB {s : Shared} {id : Str} {p pos : Pos} {e : Expr} {rest : List Expr} {f : String} {Q : Value → Shared → Prop} (O : Γ.On g) (S : Sub g s.heap) (e1 : nsIn (KF Γ) mainGlobals id = some none) (hv : bootBuiltins id = some (.builtin f)) (hn : id ≠ "__name__")
    (h : wpAny Γ.M A (spliced (backTo pos (starEach (e :: rest) env))) (fun vs s₁ => wpAny Γ.M A (call (.builtin f) vs) Q E s₁) E s)
    (hg : env.globals = mainGlobals := by rfl) (hb : env.builtins = builtinsNs := by rfl) (hk : env.scope.kind = .function := by rfl) (hl : env.kindOf id = some .globalImplicit := by rfl) (hd : (id == ("__debug__" : Str)) = false := by decide)
    (he : starEach (e :: rest) env = (false, eval e env) :: starEach rest env := by rfl) (hplain : (backTo pos (starEach (e :: rest) env)).any (·.1) = false := by rfl) :
    wpAny Γ.M A (eval (.Call (.Name id p) (e :: rest) [] pos) env) Q E s := by
  refine wpAny_Call_Name_kw (nmB O S e1 hv hn ?_ hg hb hk hl hd)
  show wpAny Γ.M A (callWith pos (.builtin f) [] (backTo pos (starEach (e :: rest) env)) []) Q E s
  refine callWith_builtin hplain ?_
  rw [he] at h ⊢
  exact evalArgs_plain h
theorem callTy {s : Shared} {id : Str} {p pos : Pos} {e : Expr} {rest : List Expr} {f : String} {Q : Value → Shared → Prop} (O : Γ.On g) (S : Sub g s.heap) (e1 : nsIn (KF Γ) mainGlobals id = some none) (hv : bootBuiltins id = some (.type f)) (hn : id ≠ "__name__")
    (h : wpAny Γ.M A (spliced (backTo pos (starEach (e :: rest) env))) (fun vs s₁ => wpAny Γ.M A (call (.type f) vs) Q E s₁) E s)
    (hg : env.globals = mainGlobals := by rfl) (hb : env.builtins = builtinsNs := by rfl) (hk : env.scope.kind = .function := by rfl) (hl : env.kindOf id = some .globalImplicit := by rfl) (hd : (id == ("__debug__" : Str)) = false := by decide)
    (he : starEach (e :: rest) env = (false, eval e env) :: starEach rest env := by rfl) (hplain : (backTo pos (starEach (e :: rest) env)).any (·.1) = false := by rfl) :
    wpAny Γ.M A (eval (.Call (.Name id p) (e :: rest) [] pos) env) Q E s := by
  refine wpAny_Call_Name_kw (nmB O S e1 hv hn ?_ hg hb hk hl hd)
  show wpAny Γ.M A (callWith pos (.type f) [] (backTo pos (starEach (e :: rest) env)) []) Q E s
  refine PyProof.Rows.callWith_type hplain ?_
  rw [he] at h ⊢
  exact evalArgs_plain h
/-- a def or a class of the text's by its name -/
theorem callG {s : Shared} {id : Str} {p pos : Pos} {e : Expr} {rest : List Expr} {f : Value} {Q : Value → Shared → Prop} (O : Γ.On g) (S : Sub g s.heap) (e1 : nsIn (KF Γ) mainGlobals id = some (some f)) (hkp : keepIn (KF Γ) f = true)
    (h : wpAny Γ.M A (spliced (backTo pos (starEach (e :: rest) env))) (fun vs s₁ => ∃ g', Γ.On g' ∧ Sub g' s₁.heap ∧ wpAny Γ.M A (call f vs) Q E s₁) E s)
    (hg : env.globals = mainGlobals := by rfl) (hk : env.scope.kind = .function := by rfl) (hl : env.kindOf id = some .globalImplicit := by rfl) (hd : (id == ("__debug__" : Str)) = false := by decide)
    (he : starEach (e :: rest) env = (false, eval e env) :: starEach rest env := by rfl) (hplain : (backTo pos (starEach rest env)).any (·.1) = false := by rfl) :
    wpAny Γ.M A (eval (.Call (.Name id p) (e :: rest) [] pos) env) Q E s := by
  refine wpAny_Call_Name_kw (nmG O S e1 ?_ hg hk hl hd)
  show wpAny Γ.M A (callWith pos f [] (backTo pos (starEach (e :: rest) env)) []) Q E s
  have h := wpAny_mono h (fun vs s₁ ⟨g', O', S', h'⟩ => (⟨O'.K S', h'⟩ : (KF Γ).In s₁.heap ∧ wpAny Γ.M A (call f vs) Q E s₁)) fun _ _ e => e
  rw [he] at h ⊢
  exact callWith_of (by show ((false || (backTo pos (starEach rest env)).any (·.1)) || false) = false; rw [hplain]; rfl) (keeps_K hkp) (evalArgs_plain h)
theorem callG0 {s : Shared} {id : Str} {p pos : Pos} {f : Value} {Q : Value → Shared → Prop} (O : Γ.On g) (S : Sub g s.heap) (e1 : nsIn (KF Γ) mainGlobals id = some (some f)) (hkp : keepIn (KF Γ) f = true)
    (h : wpAny Γ.M A (call f []) Q E s)
    (hg : env.globals = mainGlobals := by rfl) (hk : env.scope.kind = .function := by rfl) (hl : env.kindOf id = some .globalImplicit := by rfl) (hd : (id == ("__debug__" : Str)) = false := by decide) :
    wpAny Γ.M A (eval (.Call (.Name id p) [] [] pos) env) Q E s := by
  refine wpAny_Call_Name_kw (nmG O S e1 ?_ hg hk hl hd)
  exact callWith_of rfl (keeps_K hkp) (evalArgs_nil3 ⟨O.K S, h⟩)

theorem keepsGrow {h h' : Heap} {g : View} (s : Sub g h) (k : ∀ b o, h.get? b = some o → h'.get? b = some o) : Grow [] h g h' g :=
  ⟨Le.refl _, fun _ e => .inl e, fun b o e => k _ _ (s _ _ e), fun b o e _ => k _ _ e, fun b hb => by simp at hb⟩
theorem sumL {l : Addr} {vs : List Value} {ns : List Int} {Q : Value → Shared → Prop} (S : St o g m mu hh) (hA : A.handled = none) (hl : hh.PlainList l vs.toArray) (hi : IntsAre vs ns)
    (h : ∀ h' tk' t, St o g m mu h' → Q (.int ns.sum t) (sh s₀ h' tk')) : wpAny Γ.M A (call (.builtin "sum") [.ref l]) Q E (sh s₀ hh tk) := by
  obtain ⟨xs, e⟩ := hi.allInts.items
  have en : ns = xs.toList.map (·.1) := by rw [← hi.numsOf, ← nums_intItems, ← e]
  have hl' : (sh s₀ hh tk).heap.IsList l (intItems xs) := e ▸ hl.isList
  refine sum_intListG (xs := xs) hA hl' fun h' tk' t' hk => ?_
  have := h h' tk' t' (S.after (keepsGrow S.sub hk))
  rw [preSum_eq, List.take_of_length_le (by simp), ← en]; exact this
theorem maxL {l : Addr} {vs : List Value} {ns : List Int} {Q : Value → Shared → Prop} (S : St o g m mu hh) (hA : A.handled = none) (hl : hh.PlainList l vs.toArray) (hi : IntsAre vs ns) (hne : 0 < ns.length)
    (h : ∀ h' tk' t M, St o g m mu h' → M ∈ ns → (∀ a ∈ ns, a ≤ M) → Q (.int M t) (sh s₀ h' tk')) : wpAny Γ.M A (call (.builtin "max") [.ref l]) Q E (sh s₀ hh tk) := by
  obtain ⟨xs, e⟩ := hi.allInts.items
  have en : ns = xs.toList.map (·.1) := by rw [← hi.numsOf, ← nums_intItems, ← e]
  have hsz : 0 < xs.size := by rw [en] at hne; simpa using hne
  have hl' : (sh s₀ hh tk).heap.IsList l (intItems xs) := e ▸ hl.isList
  refine max_intList (xs := xs) hA hl' hsz fun v h' tk' hv hk => ?_
  obtain ⟨t, rfl⟩ := intItems_at hv
  obtain ⟨h1, h2⟩ := argBest_gt (numAt xs) (xs.size - 1)
  refine h _ _ t _ (S.after (keepsGrow S.sub hk)) ?_ fun a ha => ?_
  · rw [en, numAt_eq]; exact getD_mem (by rw [List.length_map, Array.length_toList]; omega)
  · rw [en] at ha
    obtain ⟨j, hj, rfl⟩ := mem_getD ha
    rw [List.length_map, Array.length_toList] at hj
    rw [← numAt_eq]; exact h2 j (by lia)
end

section
variable {Γ : Wd}
theorem n_pen : nsIn (KF Γ) mainGlobals (Str.ofString "_law_pen") = some (some (.ref 170)) := by kernel_rfl
theorem n_draw : nsIn (KF Γ) mainGlobals (Str.ofString "_law_draw") = some (some (.ref 177)) := by kernel_rfl
theorem n_kinds : nsIn (KF Γ) mainGlobals (Str.ofString "_law_kinds") = some (some (.ref 184)) := by kernel_rfl
theorem n_plain : nsIn (KF Γ) mainGlobals (Str.ofString "_law_plain") = some (some (.ref 189)) := by kernel_rfl
theorem n_made : nsIn (KF Γ) mainGlobals (Str.ofString "_law_made") = some (some (.ref 194)) := by kernel_rfl
theorem n_head : nsIn (KF Γ) mainGlobals (Str.ofString "_law_head") = some (some (.ref 201)) := by kernel_rfl
theorem n_nest : nsIn (KF Γ) mainGlobals (Str.ofString "_law_nest") = some (some (.ref 206)) := by kernel_rfl
theorem n_read : nsIn (KF Γ) mainGlobals (Str.ofString "_law_read") = some (some (.ref 213)) := by kernel_rfl
theorem n_count : nsIn (KF Γ) mainGlobals (Str.ofString "_law_count") = some (some (.ref 218)) := by kernel_rfl
theorem n_height : nsIn (KF Γ) mainGlobals (Str.ofString "_law_height") = some (some (.ref 223)) := by kernel_rfl
theorem n_post : nsIn (KF Γ) mainGlobals (Str.ofString "postorder") = some (some (.ref 129)) := by kernel_rfl
theorem n_Tree : nsIn (KF Γ) mainGlobals (Str.ofString "Tree") = some (some (.ref 85)) := by kernel_rfl
theorem n_Leaf : nsIn (KF Γ) mainGlobals (Str.ofString "Leaf") = some (some (.ref 120)) := by kernel_rfl
theorem n_Token : nsIn (KF Γ) mainGlobals (Str.ofString "Token") = some (some (.ref 161)) := by kernel_rfl
theorem b_len : nsIn (KF Γ) mainGlobals (Str.ofString "len") = some none := by kernel_rfl
theorem b_sum : nsIn (KF Γ) mainGlobals (Str.ofString "sum") = some none := by kernel_rfl
theorem b_max : nsIn (KF Γ) mainGlobals (Str.ofString "max") = some none := by kernel_rfl
theorem b_range : nsIn (KF Γ) mainGlobals (Str.ofString "range") = some none := by kernel_rfl
theorem b_list : nsIn (KF Γ) mainGlobals (Str.ofString "list") = some none := by kernel_rfl
theorem b_int : nsIn (KF Γ) mainGlobals (Str.ofString "int") = some none := by kernel_rfl
theorem b_abs : nsIn (KF Γ) mainGlobals (Str.ofString "abs") = some none := by kernel_rfl
theorem b_rev : nsIn (KF Γ) mainGlobals (Str.ofString "reversed") = some none := by kernel_rfl
theorem bb_len : bootBuiltins (Str.ofString "len") = some (.builtin "len") := by kernel_rfl
theorem bb_sum : bootBuiltins (Str.ofString "sum") = some (.builtin "sum") := by kernel_rfl
theorem bb_max : bootBuiltins (Str.ofString "max") = some (.builtin "max") := by kernel_rfl
theorem bb_abs : bootBuiltins (Str.ofString "abs") = some (.builtin "abs") := by kernel_rfl
theorem bb_range : bootBuiltins (Str.ofString "range") = some (.type "range") := by kernel_rfl
theorem bb_list : bootBuiltins (Str.ofString "list") = some (.type "list") := by kernel_rfl
theorem bb_int : bootBuiltins (Str.ofString "int") = some (.type "int") := by kernel_rfl
theorem bb_rev : bootBuiltins (Str.ofString "reversed") = some (.type "reversed") := by kernel_rfl
end
section
variable {Γ : Wd} {A : Around} {E : Value → Shared → Prop} {s₀ : Shared} {hh : Heap} {tk : Nat} {env : Env}
theorem partSome {e : Expr} {s : Shared} {Q : Value → Shared → Prop} (h : wpAny Γ.M A (eval e env) Q E s) : wpAny Γ.M A (evalPart (some e) env) Q E s := h
theorem negI {a : Int} {t : Tok} {Q : Value → Shared → Prop} (h : ∀ t tk', Q (.int (-a) t) (sh s₀ hh tk')) : wpAny Γ.M A (unaryOp .USub (.int a t)) Q E (sh s₀ hh tk) := PyProof.Rows.neg_int (h _ _)
def SlOn (Q : Value → Shared → Prop) (o vl vu : Value) (s₃ : Shared) : Prop := ∃ l items lo hi, o = .ref l ∧ s₃.heap.IsList l items ∧ items.size ≤ sizeLine ∧ IsPart vl lo ∧ IsPart vu hi ∧
        Q (.ref (s₃.heap.objs.size + 1)) { s₃ with heap := (s₃.heap.push { cls := .type "slice", data := .fields #[vl, vu, .none] }).push { cls := .type "list", data := .seq (slicePick items lo hi none) } }
theorem slc_start {value : Expr} {lower upper : Option Expr} {p pos : Pos} {s : Shared} {Q : Value → Shared → Prop}
    (h : wpAny Γ.M A (eval value env) (fun o s₁ => wpAny Γ.M A (evalPart lower env) (fun vl s₂ => wpAny Γ.M A (evalPart upper env) (fun vu s₃ => SlOn Q o vl vu s₃) E s₂) E s₁) E s)
    (ht : ∀ o r, letTemporaryGo value o r = pure () := by intro _ _; rfl) :
    wpAny Γ.M A (eval (.Subscript value (.Slice lower upper none p) pos) env) Q E s := wpAny_Subscript_list_slice h ht
end

/-- the pen's four cells -/
def PenV (g : View) (P : Nat) (vs : List Value) : Prop := ∃ c cs ns a b p ta tb tp, vs = [.ref c, .int a ta, .int b tb, .int p tp] ∧ LV g c cs ∧ IntsAre cs ns ∧ cs.length ≤ 1000 ∧ 0 ≤ a ∧ 0 ≤ b ∧ b < 2147483647 ∧ 0 ≤ p ∧ p ≤ (P : Int)
theorem PenV.mono {g g' : View} {P P' : Nat} {vs : List Value} (x : PenV g P vs) (l : Le g g') (h : P ≤ P') : PenV g' P' vs := by
  obtain ⟨c, cs, ns, a, b, p, ta, tb, tp, e, y, z, z', h1, h2, h3, h4, h5⟩ := x
  exact ⟨c, cs, ns, a, b, p, ta, tb, tp, e, y.mono l, z, z', h1, h2, h3, h4, by lia⟩
section
variable {Γ : Wd}
theorem draw_ok {A : Around} {s₀ : Shared} {hh : Heap} {tk : Nat} {g : View} {Q E : Value → Shared → Prop} {P : Nat} {pa : Addr} {vs : List Value} {lim : Int} {tl : Tok} (r : Rm A 1) (O : Γ.On g) (hs : Sub g hh)
    (hp : hh.PlainList pa vs.toArray) (hg : g pa = none) (hv : PenV g P vs) (hP : P < 2 ^ 30) (h0 : 0 < lim) (h1 : lim ≤ 100)
    (h : ∀ k t vs' h' tk', 0 ≤ k → k < lim → Grow [pa] hh g h' g → h'.PlainList pa vs'.toArray → PenV g (P + 1) vs' → Q (.int k t) (sh s₀ h' tk')) :
    wpAny Γ.M A (call (.ref 177) [.ref pa, .int lim tl]) Q E (sh s₀ hh tk) := by
  obtain ⟨c, cs, ns, a, b, p, ta, tb, tp, rfl, hc, hi, hcl, ha, hb0, hb1, hp0, hp1⟩ := hv
  refine enter (mu := [(pa, _)]) (W := [pa]) (binds := [(Str.ofString "pen", .ref pa), (Str.ofString "limit", .int lim tl)]) O hs r (by rfl) (by rfl) (BindsTo.of_eq (by rfl)) (by simp; exact ⟨hp, hg⟩) (by simp) (by decide) (by rfl) fun h₁ tk L S B => ?_
  refine wpAny_execs_cons ?_
  refine wpAny_Assign_Name ?_
  refine Subscript_ ?_
  refine Mine.nm (by assumption) rfl ?_
  refine cInt fun _ _ => ?_
  refine getsL S.mu0 (by decide) (by decide) rfl (stor S fun h' tk S => ?_)
  refine wpAny_execs_cons ?_
  refine wpAny_Assign_Subscript ?_
  refine wpAny_BinOp ?_
  refine Mine.nm (by assumption) rfl ?_
  refine cInt fun _ _ => ?_
  refine addI fun _ _ => ?_
  refine Mine.nm (by assumption) rfl ?_
  refine cInt fun _ _ => ?_
  refine setItemL S.mu0 (by decide) (by decide) (by simp) fun h' hl hs => ?_
  replace S := S.upd0 hl hs
  refine wpAny_execs_cons ?_
  refine wpAny_If ?_
  refine wpAny_isTrue_Compare1 ?_
  refine Subscript_ ?_
  refine Mine.nm (by assumption) rfl ?_
  refine cInt fun _ _ => ?_
  refine getsL S.mu0 (by decide) (by decide) rfl ?_
  refine cInt fun _ _ => ?_
  refine PyProof.Rows.gt_int ?_
  refine wpAny_truthy_bool ?_
  by_cases hpos : 0 < a
  · refine ite_pos (by simpa using hpos) ?_
    refine wpAny_execs_cons ?_
    refine wpAny_Assign_Name ?_
    refine wpAny_BinOp ?_
    refine Subscript_ ?_
    refine Mine.nm (by assumption) rfl ?_
    refine cInt fun _ _ => ?_
    refine getsL S.mu0 (by decide) (by decide) rfl ?_
    refine Mine.nm (by assumption) rfl ?_
    refine modP h0 fun k tt tk hk0 hk1 => stor S fun h' tk S => ?_
    refine wpAny_execs_cons ?_
    refine wpAny_Assign_Subscript ?_
    refine wpAny_BinOp ?_
    refine Subscript_ ?_
    refine Mine.nm (by assumption) rfl ?_
    refine cInt fun _ _ => ?_
    refine getsL S.mu0 (by decide) (by decide) rfl ?_
    refine Mine.nm (by assumption) rfl ?_
    refine divP h0 (by lia) ha fun a' ta' tk ha' => ?_
    refine Mine.nm (by assumption) rfl ?_
    refine cInt fun _ _ => ?_
    refine setItemL S.mu0 (by decide) (by decide) (by simp) fun h' hl hs => ?_
    replace S := S.upd0 hl hs
    refine wpAny_execs_cons ?_
    refine wpAny_Return_some ?_
    refine Mine.nm (by assumption) rfl ?_
    exact h _ _ _ _ _ hk0 hk1 (B S) S.mu0 ⟨_, _, _, _, _, _, _, _, _, rfl, hc, hi, hcl, ha', hb0, hb1, by lia, by lia⟩
  · refine ite_neg (by simpa using hpos) ?_
    refine wpAny_execs_nil ?_
    refine wpAny_execs_cons ?_
    refine wpAny_Assign_Subscript ?_
    refine wpAny_BinOp ?_
    refine wpAny_BinOp ?_
    refine wpAny_BinOp ?_
    refine wpAny_BinOp ?_
    refine Subscript_ ?_
    refine Mine.nm (by assumption) rfl ?_
    refine cInt fun _ _ => ?_
    refine getsL S.mu0 (by decide) (by decide) rfl ?_
    refine cInt fun _ _ => ?_
    refine mulI (by lia) fun _ _ => ?_
    refine wpAny_BinOp ?_
    refine Mine.nm (by assumption) rfl ?_
    refine Mine.nm (by assumption) rfl ?_
    refine mulI (by lia) fun _ _ => ?_
    refine addI fun _ _ => ?_
    refine cInt fun _ _ => ?_
    refine addI fun _ _ => ?_
    refine cInt fun _ _ => ?_
    refine modP (by lia) fun b' tb' tk hm0 hm1 => ?_
    refine Mine.nm (by assumption) rfl ?_
    refine cInt fun _ _ => ?_
    refine setItemL S.mu0 (by decide) (by decide) (by simp) fun h' hl hs => ?_
    replace S := S.upd0 hl hs
    refine wpAny_execs_cons ?_
    refine wpAny_If ?_
    refine wpAny_isTrue_Compare1 ?_
    refine Mine.nm (by assumption) rfl ?_
    refine callB O S.sub b_len bb_len (by decide) ?_
    refine wpAny_items_cons ?_
    refine Subscript_ ?_
    refine Mine.nm (by assumption) rfl ?_
    refine cInt fun _ _ => ?_
    refine getsL S.mu0 (by decide) (by decide) rfl ?_
    refine wpAny_items_nil ?_
    refine lenL (hc.plain S.sub) (by lia) fun t9 tk9 => ?_
    refine PyProof.Rows.lt_int ?_
    refine wpAny_truthy_bool ?_
    by_cases hlt : p < (cs.length : Int)
    · refine ite_pos (by simpa using hlt) ?_
      refine wpAny_execs_cons ?_
      refine wpAny_Return_some ?_
      refine wpAny_BinOp ?_
      refine Subscript_ ?_
      refine Subscript_ ?_
      refine Mine.nm (by assumption) rfl ?_
      refine cInt fun _ _ => ?_
      refine getsL S.mu0 (by decide) (by decide) rfl ?_
      refine Mine.nm (by assumption) rfl ?_
      refine Exists.elim (intsAt hi hp0 hlt) fun n5 e5 => Exists.elim e5 fun t5 hx => ?_
      refine getsL (hc.plain S.sub) (by omega) (by lia) hx ?_
      refine Mine.nm (by assumption) rfl ?_
      refine modP h0 fun k tt tk hk0 hk1 => ?_
      exact h _ _ _ _ _ hk0 hk1 (B S) S.mu0 ⟨_, _, _, _, _, _, _, _, _, rfl, hc, hi, hcl, ha, hm0, hm1, by lia, by lia⟩
    · refine ite_neg (by simpa using hlt) ?_
      refine wpAny_execs_nil ?_
      refine wpAny_execs_cons ?_
      refine wpAny_Return_some ?_
      refine wpAny_BinOp ?_
      refine wpAny_BinOp ?_
      refine Subscript_ ?_
      refine Mine.nm (by assumption) rfl ?_
      refine cInt fun _ _ => ?_
      refine getsL S.mu0 (by decide) (by decide) rfl ?_
      refine cInt fun _ _ => ?_
      refine divP (by lia) (by lia) hm0 fun b2 tb2 tk _ => ?_
      refine Mine.nm (by assumption) rfl ?_
      refine modP h0 fun k tt tk hk0 hk1 => ?_
      exact h _ _ _ _ _ hk0 hk1 (B S) S.mu0 ⟨_, _, _, _, _, _, _, _, _, rfl, hc, hi, hcl, ha, hm0, hm1, by lia, by lia⟩
end

abbrev Mus := List (Addr × List Value)
def testsOf (ifs : List Expr) (env : Env) : Sem Bool := forIn ifs true fun c r => if r = true then do let ok ← isTrue c env (eval c env); pure (ForInStep.yield ok) else pure (ForInStep.yield r)

def CAfter (W : List Addr) (s : Shared) (g : View) (J : List Value → View → Mus → Prop) (ys : List Value) (s' : Shared) : Prop :=
  ∃ h tk g' mu, s' = { s with heap := h, toks := tk } ∧ Grow W s.heap g h g' ∧ (∀ p ∈ mu, h.PlainList p.1 p.2.toArray ∧ p.1 ∈ W ∧ g' p.1 = none) ∧ (mu.map (·.1)).Nodup ∧ J ys g' mu

section
variable {Γ : Wd} {A : Around} {E : Value → Shared → Prop} {s : Shared} {env : Env}

/-- a list comprehension over any iterator, its block's frame C, its list D -/
theorem comp_walk {elt iter : Expr} {x : Str} {px : Pos} {ifs : List Expr} {scope : PySem.Scope} {cl : List (Str × Addr)} {pos : Pos} {s₂ : Shared} {I : Addr} {fp wr : List Addr} {n : Nat} {P : Nat → Value → Prop} {Stt : Nat → Heap → Prop} {Q : Value → Shared → Prop}
    {h₁ : Heap} {g : View} {W : List Addr} {mu : Mus} (Wk : Walks Challenge.rw_on0158_01.row.prog Γ.w A I fp wr n P Stt) (J : Nat → List Value → View → Mus → Prop)
    (hst : Stt 0 s₂.heap) (hfp : ∀ b ∈ fp, b < s₂.heap.objs.size ∧ b ∉ W) (hwr : ∀ b ∈ wr, h₁.get? b = none) (hwl : ∀ i h, Stt i h → ∀ b ∈ wr, h.get? b ≠ none) (hsub : Sub g h₁) (hold : ∀ b o, h₁.get? b = some o → s₂.heap.get? b = some o)
    (hmu : ∀ p ∈ mu, h₁.PlainList p.1 p.2.toArray ∧ p.1 ∈ W ∧ g p.1 = none) (hnd : (mu.map (·.1)).Nodup) (hJ : J 0 [] g mu)
    (hW : ∀ b ∈ W, h₁.get? b ≠ none)
    (hlen : ∀ i ys g mu, J i ys g mu → ys.length ≤ i) (hn : n ≤ sizeLine)
    (hcell : ∀ y ∈ scope.names, y.2 ≠ .cell) (hkind : scope.kind = .function) (hx : scope.names.lookup x = some .local)
    (turn : ∀ (i : Nat) (v : Value) (ys : List Value) (g' : View) (mu' : Mus) (hh : Heap) (tk : Nat) (C : Addr) (m : Str → Option Value) (E' : Value → Shared → Prop), i < n → P i v → J i ys g' mu' → Le g g' → St ⟨hh, g', W, C⟩ g' (fun y => if y = x then some v else m y) mu' hh →
      wpAny Γ.M A (testsOf ifs (compEnvC scope cl C env)) (fun ok s₃ => if ok = true then wpAny Γ.M A (eval elt (compEnvC scope cl C env)) (fun y s₄ => CAfter W { s₂ with heap := hh, toks := tk } g' (J (i + 1)) (ys ++ [y]) s₄) E' s₃ else CAfter W { s₂ with heap := hh, toks := tk } g' (J (i + 1)) ys s₃) E' { s₂ with heap := hh, toks := tk })
    (done : ∀ D h' tk g' mu' ys, J n ys g' mu' → Grow W h₁ g h' g' → g' D = none → h₁.get? D = none → h'.PlainList D ys.toArray → (∀ p ∈ mu', h'.PlainList p.1 p.2.toArray ∧ p.1 ∈ W) → Q (.ref D) { s₂ with heap := h', toks := tk }) :
    wpAny Γ.M A (newList []) (fun acc s₃ => wpAny Γ.M A (newFunctionEnv scope env.globals cl [] env.qual none .none (some env)) (fun cenv s₄ =>
      codeAny Γ.M A (.compStart (.ListComp elt [⟨.Name x px, iter, ifs, 0⟩] scope pos) 0 (.ref I) acc { cenv with scope := relabel scope env }) (compPost Γ.M A E none Q acc cenv.locals) s₄) E s₃) E s₂ := by
  refine wpAny_newObj_type (wpAny_newFunctionEnv hcell (by intro y hy; simp at hy) (fun h₃ hns₁ hsb₁ => ?_) hkind)
  dsimp only at hns₁ hsb₁ ⊢
  generalize hH2 : s₂.heap.push { cls := .type "list", dict := none, data := .seq ([] : List Value).toArray } = H2 at hns₁ hsb₁ ⊢
  have hC : H2.objs.size = s₂.heap.objs.size + 1 := by rw [← hH2, Heap.size_push]
  have hD2 : s₂.heap.get? s₂.heap.objs.size = none := get?_none_ge (Nat.le_refl _)
  have hC2 : s₂.heap.get? H2.objs.size = none := get?_none_ge (by lia)
  have hDH : H2.PlainList s₂.heap.objs.size ([] : List Value).toArray := ⟨0, by rw [← hH2]; exact Heap.get?_push_size _ rfl⟩
  have old2 : ∀ b o, s₂.heap.get? b = some o → H2.get? b = some o := fun b o e => hH2 ▸ Heap.get?_push_of_some _ e
  have hsz3 : h₃.objs.size = H2.objs.size + 1 := by have e1 := hsb₁.1; rw [Heap.size_push] at e1; exact e1
  have hsb3 : ∀ b o, H2.get? b = some o → h₃.get? b = some o := fun b o e => hsb₁.extBut b o (Nat.ne_of_lt (Heap.lt_size e)) (Heap.get?_push_of_some _ e)
  clear hsb₁ hH2
  generalize hCe : H2.objs.size = C at *
  generalize hDe : s₂.heap.objs.size = D at *
  have hDC : D ≠ C := by lia
  have hDf : D ∉ fp := fun h => Nat.lt_irrefl _ (Nat.lt_of_lt_of_le (hfp _ h).1 (by lia))
  have hCf : C ∉ fp := fun h => Nat.lt_irrefl _ (Nat.lt_of_lt_of_le (hfp _ h).1 (by lia))
  have hDw : D ∉ wr := fun h => hDf (Wk.sub _ h)
  have hCw : C ∉ wr := fun h => hCf (Wk.sub _ h)
  have hup : ∀ b, h₁.get? b ≠ none → s₂.heap.get? b ≠ none := fun b e => by
    cases e1 : h₁.get? b with
    | none => exact absurd e1 e
    | some x => rw [hold _ _ e1]; simp
  have hD1 : h₁.get? D = none := Classical.byContradiction fun e => hup _ e hD2
  have hC1 : h₁.get? C = none := Classical.byContradiction fun e => hup _ e hC2
  have hDW : D ∉ W := fun h => hW _ h hD1
  have hCW : C ∉ W := fun h => hW _ h hC1
  have old : ∀ b o, s₂.heap.get? b = some o → h₃.get? b = some o := fun b o e => hsb3 _ _ (old2 _ _ e)
  have hacc : h₃.PlainList D ([] : List Value).toArray := hDH.at fun o e => hsb3 _ _ e
  have hst₁ : Stt 0 h₃ := Wk.frame _ _ _ hst fun b _ o e => old b o e
  have hgr : Grow W h₁ g h₃ g := ⟨Le.refl _, fun _ e => .inl e, fun b x e => old _ _ (hold _ _ (hsub _ _ e)), fun b x e _ => old _ _ (hold _ _ e), fun b hb e => by
    cases e1 : h₁.get? b with
    | none => exact absurd e1 e
    | some x => rw [old _ _ (hold _ _ e1)]; simp⟩
  have fresh : ∀ b, h₁.get? b = none → g b = none := fun b hb => by
    cases e : g b with
    | none => rfl
    | some x => rw [hsub _ _ e] at hb; cases hb
  have loop : ∀ s₃ : Shared, s₃ = { s₂ with heap := h₃, toks := s₂.toks + ([] : List (Str × Value)).length } →
      codeAny Γ.M A (.compLoop (.ListComp elt [⟨.Name x px, iter, ifs, 0⟩] scope pos) 0 (.ref I) (.ref D) (compEnvC scope cl C env)) (compPost Γ.M A E none Q (.ref D) C) s₃ := by
    rintro s₃ rfl
    refine codeAny_compLoop_tests (fun k s' => ∃ H tk m' ys g' mu' i, s' = { s₂ with heap := H, toks := tk } ∧ k = n + 1 - i ∧ i ≤ n ∧ Stt i H ∧ H.PlainList D ys.toArray ∧ H.Ns C m' ∧ Grow W h₁ g H g' ∧ (∀ b ∈ wr, g' b = none) ∧ g' C = none ∧ g' D = none ∧
      (∀ b ∈ fp, b ∉ W) ∧ (∀ p ∈ mu', H.PlainList p.1 p.2.toArray ∧ p.1 ∈ W ∧ g' p.1 = none) ∧ (mu'.map (·.1)).Nodup ∧ J i ys g' mu') ?_ (n + 1)
      ⟨h₃, _, _, [], g, mu, 0, rfl, rfl, Nat.zero_le _, hst₁, hacc, hns₁, hgr, fun b hb => fresh b (hwr b hb), fresh _ hC1, fresh _ hD1, fun b hb => (hfp b hb).2,
        fun p hp => let ⟨a, b, c⟩ := hmu p hp; ⟨a.at fun o e => old _ _ (hold _ _ e), b, c⟩, hnd, hJ⟩
    rintro k s' ⟨H, tk, m', ys, g', mu', i, rfl, rfl, hi, hst', hacc', hn', hg', hw', hC', hD', hfp', hmu', hnd', hJ'⟩
    have muw : ∀ p ∈ mu', p.1 ∉ wr := fun p hp h => (hfp' _ (Wk.sub _ h)) (hmu' p hp).2.1
    have muC : ∀ p ∈ mu', p.1 ≠ C := fun p hp h => hCW (h ▸ (hmu' p hp).2.1)
    by_cases hlt : i < n
    · refine Wk.item i _ _ _ hlt hst' fun v H₁ tk₁ hPv hst₁' hk₁ => ?_
      refine wpAny_assign_Name (wpAny_storeName_local (lookup_relabel_local hx) (hn'.at' fun o e => hk₁ _ o hCw e) (fun H₂ hn₂ hs₂ => ?_) (by simp [compEnvC, relabel, hkind]))
      have up₂ : ∀ b o, b ≠ C → b ∉ wr → H.get? b = some o → H₂.get? b = some o := fun b o hbC hbf e => hs₂.extBut b o hbC (hk₁ b o hbf e)
      have hst₂ : Stt (i + 1) H₂ := Wk.frame _ _ _ hst₁' fun b hb o e => hs₂.extBut b o (fun (h : b = C) => hCf (h ▸ hb)) e
      have hsub₂ : Sub g' H₂ := fun b o e => up₂ b o (fun h => by rw [h, hC'] at e; cases e) (fun h => by rw [hw' b h] at e; cases e) (hg'.sub b o e)
      have hmu₂ : ∀ p ∈ mu', H₂.PlainList p.1 p.2.toArray := fun p hp => by
        obtain ⟨⟨n', e⟩, b, c⟩ := hmu' p hp
        exact ⟨n', up₂ _ _ (muC p hp) (muw p hp) e⟩
      have hacc₂ : H₂.PlainList D ys.toArray := hacc'.at fun o e => up₂ _ o hDC hDw e
      have liveW : ∀ b ∈ W, h₁.get? b ≠ none → H₂.get? b ≠ none := fun b hb e => by
        have e1 := hg'.live b hb e
        cases e2 : H.get? b with
        | none => exact absurd e2 e1
        | some x => rw [up₂ b x (fun h => hCW (h ▸ hb)) (fun h => (hfp' _ (Wk.sub _ h)) hb) e2]; simp
      have G₂ : Grow W h₁ g H₂ g' := ⟨hg'.le, hg'.fr, hsub₂, fun b x e hb => up₂ b x (fun h => by rw [h, hC1] at e; cases e) (fun h => by rw [(hwr b h)] at e; cases e) (hg'.old b x e hb), liveW⟩
      have S : St ⟨H₂, g', W, C⟩ g' (fun y => if y = x then some v else m' y) mu' H₂ :=
        ⟨hn₂, Grow.refl hsub₂, hC', fun p hp => ⟨hmu₂ p hp, (hmu' p hp).2.2, muC p hp, .inr (hmu' p hp).2.1⟩, hnd'⟩
      -- what every way behind the element needs
      have fin : ∀ ys' s₄ , CAfter W { s₂ with heap := H₂, toks := tk₁ + 1 } g' (J (i + 1)) ys' s₄ → ∃ H₄ tk₄ g₄ mu₄, s₄ = { s₂ with heap := H₄, toks := tk₄ } ∧ Stt (i + 1) H₄ ∧ H₄.PlainList D ys.toArray ∧ (∃ m₄, H₄.Ns C m₄) ∧ Grow W h₁ g H₄ g₄ ∧ (∀ b ∈ wr, g₄ b = none) ∧ g₄ C = none ∧ g₄ D = none ∧
          (∀ p ∈ mu₄, H₄.PlainList p.1 p.2.toArray ∧ p.1 ∈ W ∧ g₄ p.1 = none) ∧ (mu₄.map (·.1)).Nodup ∧ J (i + 1) ys' g₄ mu₄ := by
        rintro ys' s₄ ⟨H₄, tk₄, g₄, mu₄, rfl, G₄, hm₄, hn₄, hJ₄⟩
        dsimp only at G₄
        have hI2 : ∀ b ∈ wr, H₂.get? b ≠ none := hwl _ _ hst₂
        have hid : ∀ b, H₂.get? b ≠ none → g' b = none → g₄ b = none := fun b e e1 => by
          cases e2 : H₂.get? b with
          | none => exact absurd e2 e
          | some x => exact G₄.hidden e2 e1
        obtain ⟨oC, es, ep, eC, rC⟩ := (show H₂.Ns C _ from hn₂)
        refine ⟨H₄, tk₄, g₄, mu₄, rfl, Wk.frame _ _ _ hst₂ fun b hb o e => G₄.old b o e (hfp' b hb), hacc₂.at fun o e => G₄.old _ _ e hDW, ⟨_, oC, es, ep, G₄.old _ _ eC hCW, rC⟩, G₂.trans G₄ (fun b hb => .inl hb),
          fun b hb => hid b (hI2 b hb) (hw' b hb), hid _ (by rw [eC]; simp) hC', hid _ (PlainList.live hacc₂) hD', hm₄, hn₄, hJ₄⟩
      have t := turn i v ys g' mu' H₂ (tk₁ + 1) C m' (notedBy Γ.M A (compEnvC scope cl C env) fun e s' => compPost Γ.M A E none Q (.ref D) C (.error e) s') hlt hPv hJ' hg'.le S
      refine wpAny_mono t (fun ok s₃ h₃ => ?_) fun _ _ e => e
      cases ok with
      | false =>
        simp only [Bool.false_eq_true, if_false] at h₃ ⊢
        obtain ⟨H₄, tk₄, g₄, mu₄, rfl, a1, a2, ⟨m₄, a3⟩, a4, a5, a6, a7, a8, a9, a10⟩ := fin _ _ h₃
        exact ⟨n + 1 - (i + 1), by lia, H₄, tk₄, m₄, ys, g₄, mu₄, i + 1, rfl, rfl, hlt, a1, a2, a3, a4, a5, a6, a7, hfp', a8, a9, a10⟩
      | true =>
        simp only [if_true] at h₃ ⊢
        refine wpAny_mono h₃ (fun y s₄ h₄ => ?_) fun _ _ e => e
        obtain ⟨H₄, tk₄, g₄, mu₄, rfl, a1, a2, ⟨m₄, a3⟩, a4, a5, a6, a7, a8, a9, a10⟩ := fin _ _ h₄
        have hys : ys.toArray.size ≤ sizeLine := by have := hlen _ _ _ _ hJ'; rw [List.size_toArray]; lia
        refine wpAny_list_append_plain (hsz := hys) a2 fun h₅ hl₅ hs₅ => ?_
        have k₅ : ∀ b o, b ≠ D → H₄.get? b = some o → h₅.get? b = some o := fun b o hb e => hs₅.extBut b o hb e
        refine ⟨n + 1 - (i + 1), by lia, h₅, tk₄, m₄, ys ++ [y], g₄, mu₄, i + 1, rfl, rfl, hlt, Wk.frame _ _ _ a1 fun b hb o e => k₅ b o (fun h => hDf (h ▸ hb)) e, by simpa using hl₅, a3.sameBut hs₅ (Ne.symm hDC), ?_, a5, a6, a7, hfp', ?_, a9, a10⟩
        · refine ⟨a4.le, a4.fr, fun b o e => k₅ b o (fun h => by rw [h, a7] at e; cases e) (a4.sub b o e), fun b o e hb => k₅ b o (fun h => by rw [h, hD1] at e; cases e) (a4.old b o e hb), fun b hb e => same_live hs₅ (PlainList.live hl₅) (a4.live b hb e)⟩
        · intro p hp
          obtain ⟨⟨n', e⟩, b, c⟩ := a8 p hp
          exact ⟨⟨n', k₅ _ _ (fun h => hDW (h ▸ b)) e⟩, b, c⟩
    · have hin : i = n := by lia
      subst hin
      refine Wk.done _ _ _ hst' fun H₁ tk₁ hk₁ => ?_
      refine ⟨m', hn'.at' fun o e => hk₁ _ o hCw e, fun h' hs' => ?_⟩
      have up : ∀ b o, b ≠ C → b ∉ wr → H.get? b = some o → h'.get? b = some o := fun b o hbC hbf e => hs'.extBut b o hbC (hk₁ b o hbf e)
      refine done D h' tk₁ g' mu' ys hJ' ⟨hg'.le, hg'.fr, fun b o e => up b o (fun h => by rw [h, hC'] at e; cases e) (fun h => by rw [hw' b h] at e; cases e) (hg'.sub b o e), fun b x e hb => up b x (fun h => by rw [h, hC1] at e; cases e) (fun h => by rw [(hwr b h)] at e; cases e) (hg'.old b x e hb), fun b hb e => ?_⟩ hD' hD1 (hacc'.at fun o e => up _ o hDC hDw e) fun p hp => ?_
      · have e1 := hg'.live b hb e
        cases e2 : H.get? b with
        | none => exact absurd e2 e1
        | some x => rw [up b x (fun h => hCW (h ▸ hb)) (fun h => (hfp' _ (Wk.sub _ h)) hb) e2]; simp
      · obtain ⟨⟨n', e⟩, b, c⟩ := hmu' p hp
        exact ⟨⟨n', up _ _ (muC p hp) (muw p hp) e⟩, b⟩
  exact codeAny_compStart_list (loop _ rfl) (Wk.self 0 _ _ _ hst₁ (loop _ rfl))

/-- a new list of the heap's is told to the view -/
theorem St.adopt {o : Og} {g : View} {m : Str → Option Value} {mu : Mus} {h h₁ : Heap} {D : Addr} {ys : List Value} (S : St o g m mu h) (hl : h.PlainList D ys.toArray) (hg : g D = none) (hn : h₁.get? D = none) (hL : h₁.get? o.L ≠ none) (hm : ∀ p ∈ mu, h₁.get? p.1 ≠ none) (ho : o.h.get? D = none) :
    ∃ g', Le g g' ∧ LV g' D ys ∧ St o g' m mu h := by
  obtain ⟨n, e⟩ := hl
  have hDL : o.L ≠ D := fun h => hL (h ▸ hn)
  refine ⟨g.set D (lst ys n), Le.set hg, ⟨n, View.set_self ..⟩, S.ns, ⟨S.gr.le.trans (Le.set hg), fun b hb => ?_, fun b x hb => ?_, S.gr.old, S.gr.live⟩, by simp [View.set, hDL, S.hid], fun p hp => ?_, S.nd⟩
  · by_cases h : b = D
    · subst h; exact .inr ho
    · exact S.gr.fr b (by simpa [View.set, h] using hb)
  · by_cases h : b = D
    · subst h; rw [View.set_self] at hb; cases hb; exact e
    · exact S.sub b x (by simpa [View.set, h] using hb)
  · obtain ⟨b1, b2, b3, b4⟩ := S.mus p hp
    have : p.1 ≠ D := fun h => hm p hp (h ▸ hn)
    exact ⟨b1, by simp [View.set, this, b2], b3, b4⟩

def CompOn (Γ : Wd) (A : Around) (E : Value → Shared → Prop) (elt iter : Expr) (x : Str) (px : Pos) (ifs : List Expr) (scope : PySem.Scope) (cl : List (Str × Addr)) (pos : Pos) (env : Env) (Q : Value → Shared → Prop) (xv : Value) (s₁ : Shared) : Prop :=
  wpAny Γ.M A (pyIter xv) (fun it s₂ => wpAny Γ.M A (newList []) (fun acc s₃ => wpAny Γ.M A (newFunctionEnv scope env.globals cl [] env.qual none .none (some env)) (fun cenv s₄ =>
      codeAny Γ.M A (.compStart (.ListComp elt [⟨.Name x px, iter, ifs, 0⟩] scope pos) 0 it acc { cenv with scope := relabel scope env }) (compPost Γ.M A E none Q acc cenv.locals) s₄) E s₃) E s₂) E s₁
theorem comp_start {elt iter : Expr} {x : Str} {px : Pos} {ifs : List Expr} {scope : PySem.Scope} {cl : List (Str × Addr)} {pos : Pos} {Q : Value → Shared → Prop} (hclos : closureFor scope env = pure cl) (hkind : scope.kind = .function) (hnames : ∀ y ∈ scope.names, y.2 = .local → scope.names.lookup y.1 = some .local)
    (h : wpAny Γ.M A (eval iter env) (CompOn Γ A E elt iter x px ifs scope cl pos env Q) E s) (hs : ∀ x, foldedSetIterable iter env x = pure x := by intro _; rfl) :
    wpAny Γ.M A (eval (.ListComp elt [⟨.Name x px, iter, ifs, 0⟩] scope pos) env) Q E s := by
  rw [eval_ListComp]
  exact wpAny_comprehension_free (use := none) rfl hs hclos hkind hnames h

theorem listIter_live {h : Heap} {I l : Addr} {i : Nat} (x : h.IsListIter I l i) : h.get? I ≠ none := by obtain ⟨_, e, _⟩ := x; exact by rw [e]; simp

/-- over a list, nothing of ours changed by the elements -/
theorem comp_list {s₀ : Shared} {hh : Heap} {tk : Nat} {elt iter : Expr} {x : Str} {px : Pos} {ifs : List Expr} {scope : PySem.Scope} {cl : List (Str × Addr)} {pos : Pos} {Q : Value → Shared → Prop} {o : Og} {g : View} {m : Str → Option Value} {mu : Mus} {l : Addr} {vs : List Value}
    (S : St o g m mu hh) (hA : A.handled = none) (hl : hh.PlainList l vs.toArray) (hn : vs.length ≤ 1000000) (J : Nat → List Value → View → Prop) (hJ : J 0 [] g) (hlen : ∀ i ys g, J i ys g → ys.length ≤ i)
    (hcell : ∀ y ∈ scope.names, y.2 ≠ .cell) (hkind : scope.kind = .function) (hx : scope.names.lookup x = some .local)
    (turn : ∀ (i : Nat) (v : Value) (ys : List Value) (g' : View) (h' : Heap) (tk' : Nat) (C : Addr) (m : Str → Option Value) (E' : Value → Shared → Prop), vs[i]? = some v → J i ys g' → Le g g' → St ⟨h', g', [], C⟩ g' (fun y => if y = x then some v else m y) [] h' →
      wpAny Γ.M A (testsOf ifs (compEnvC scope cl C env)) (fun ok s₃ => if ok = true then wpAny Γ.M A (eval elt (compEnvC scope cl C env)) (fun y s₄ => CAfter [] (sh s₀ h' tk') g' (fun ys g _ => J (i + 1) ys g) (ys ++ [y]) s₄) E' s₃ else CAfter [] (sh s₀ h' tk') g' (fun ys g _ => J (i + 1) ys g) ys s₃) E' (sh s₀ h' tk'))
    (done : ∀ D h' tk' g' g'' ys, J vs.length ys g' → Le g g' → Le g' g'' → LV g'' D ys → St o g'' m mu h' → Q (.ref D) (sh s₀ h' tk')) :
    CompOn Γ A E elt iter x px ifs scope cl pos env Q (.ref l) (sh s₀ hh tk) := by
  refine wpAny_pyIter_list (s := sh s₀ hh tk) hl.isList ?_
  obtain ⟨nl, el⟩ := hl
  have hne : l ≠ hh.objs.size := Nat.ne_of_lt (Heap.lt_size el)
  have hI : hh.get? hh.objs.size = none := get?_none_ge (Nat.le_refl _)
  have W := Walks.list (prog := Challenge.rw_on0158_01.row.prog) (w := Γ.w) hA hh.objs.size l hne vs.toArray
  refine comp_walk (W := []) (mu := []) (h₁ := hh) (g := g) (s₂ := sh s₀ (hh.push _) tk) W (fun i ys g _ => J i ys g) ⟨⟨_, Heap.get?_push_size _ rfl, rfl, rfl⟩, ⟨_, Heap.get?_push_of_some _ el, rfl, _, rfl⟩⟩ ?_ ?_ ?_ S.sub (fun b o e => Heap.get?_push_of_some _ e) (by simp) (by simp) hJ (by simp) (fun i ys g _ h => hlen i ys g h) (by rw [sizeLine_eq]; simp; lia) hcell hkind hx ?_ ?_
  · intro b hb
    refine ⟨?_, by simp⟩
    show b < (hh.push _).objs.size
    rw [Heap.size_push]
    rcases List.mem_cons.mp hb with rfl | hb
    · exact Nat.lt_succ_self _
    · rw [List.mem_singleton.mp hb]; exact Nat.lt_succ_of_lt (Heap.lt_size el)
  · intro b hb; rw [List.mem_singleton.mp hb]; exact hI
  · intro i h hst b hb; rw [List.mem_singleton.mp hb]; exact listIter_live hst.1
  · intro i v ys g' mu' h' tk' C m' E' hi hv hj hle S'
    have e : mu' = [] := by
      cases mu' with
      | nil => rfl
      | cons p r => have := S'.mus p (by simp); simp at this; exact absurd this.2.2.2 (PlainList.live this.1)
    subst e
    exact turn i v ys g' h' tk' C m' E' (by simpa using hv) hj hle S'
  · intro D h' tk' g' mu' ys hj G hD hD1 hlD _
    have S' := S.after G
    obtain ⟨oL, es, ep, eL, _⟩ := id S.ns
    obtain ⟨g'', a, b, c⟩ := S'.adopt (h₁ := hh) hlD hD hD1 (by rw [eL]; simp) (fun p hp => PlainList.live (S.mus p hp).1) (S.gr.gone hD1)
    exact done D h' tk' g' g'' ys (by simpa using hj) G.le a b c
theorem tests_nil {env : Env} {Q : Bool → Shared → Prop} (h : Q true s) : wpAny Γ.M A (testsOf [] env) Q E s := wpAny_pure h
theorem tests_one {c : Expr} {env : Env} {Q : Bool → Shared → Prop} (h : wpAny Γ.M A (isTrue c env (eval c env)) Q E s) : wpAny Γ.M A (testsOf [c] env) Q E s := by
  unfold testsOf
  rw [List.forIn_cons]
  refine wpAny_bind ?_
  rw [if_pos rfl]
  refine wpAny_bind (wpAny_mono h (fun ok s' h' => wpAny_pure ?_) fun _ _ e => e)
  exact wpAny_pure h'
theorem CAfter.of {s₀ : Shared} {hh : Heap} {tk₀ : Nat} {g g' : View} {m : Str → Option Value} {mu : Mus} {J : List Value → View → Mus → Prop} {ys : List Value} {h : Heap} {tk : Nat} {C : Addr} (S : St ⟨hh, g, [], C⟩ g' m mu h) (hj : J ys g' []) : CAfter [] (sh s₀ hh tk₀) g J ys (sh s₀ h tk) :=
  ⟨h, tk, g', [], rfl, S.gr, by simp, by simp, hj⟩
end

mutual
inductive Tr where
  | leaf (k t : Str)
  | node (n : Str) (cs : Fo)
inductive Fo where
  | nil
  | cons (t : Tr) (r : Fo)
end
def Fo.list : Fo → List Tr
  | .nil => []
  | .cons t r => t :: r.list
def Tr.kids : Tr → Fo
  | .leaf _ _ => .nil
  | .node _ cs => cs
mutual
def Tr.size : Tr → Nat
  | .leaf _ _ => 1
  | .node _ cs => 1 + cs.size
def Fo.size : Fo → Nat
  | .nil => 0
  | .cons t r => t.size + r.size
end
mutual
def Tr.dep : Tr → Nat
  | .leaf _ _ => 0
  | .node _ cs => 1 + cs.dep
def Fo.dep : Fo → Nat
  | .nil => 0
  | .cons t r => max t.dep r.dep
end
mutual
def Tr.hgt : Tr → Nat
  | .leaf _ _ => 0
  | .node _ cs => 1 + cs.hgt
def Fo.hgt : Fo → Nat
  | .nil => 0
  | .cons t r => max t.hgt r.hgt
end
mutual
def IsPl (g : View) : Tr → Value → Prop
  | .leaf k t, v => ∃ a tk tt, v = .ref a ∧ TV g a [.str k tk, .str t tt, .none]
  | .node n cs, v => ∃ a tk l vs, v = .ref a ∧ TV g a [.str n tk, .none, .ref l] ∧ LV g l vs ∧ IsPls g cs vs
def IsPls (g : View) : Fo → List Value → Prop
  | .nil, vs => vs = []
  | .cons t r, vs => ∃ v ws, vs = v :: ws ∧ IsPl g t v ∧ IsPls g r ws
end
mutual
theorem IsPl.mono {g g' : View} (l : Le g g') : ∀ (t : Tr) {v : Value}, IsPl g t v → IsPl g' t v
  | .leaf k t, v, h => by simp only [IsPl] at h ⊢; obtain ⟨a, tk, tt, e, x⟩ := h; exact ⟨a, tk, tt, e, x.mono l⟩
  | .node n cs, v, h => by simp only [IsPl] at h ⊢; obtain ⟨a, tk, b, vs, e, x, y, z⟩ := h; exact ⟨a, tk, b, vs, e, x.mono l, y.mono l, IsPls.mono l cs z⟩
theorem IsPls.mono {g g' : View} (l : Le g g') : ∀ (f : Fo) {vs : List Value}, IsPls g f vs → IsPls g' f vs
  | .nil, vs, h => by simp only [IsPls] at h ⊢; exact h
  | .cons t r, vs, h => by simp only [IsPls] at h ⊢; obtain ⟨v, ws, e, x, y⟩ := h; exact ⟨v, ws, e, IsPl.mono l t x, IsPls.mono l r y⟩
end
theorem IsPls.get {g : View} : ∀ (f : Fo) {vs : List Value} {i : Nat} {v : Value}, IsPls g f vs → vs[i]? = some v → ∃ t, f.list[i]? = some t ∧ IsPl g t v
  | .nil, vs, i, v, h, e => by simp only [IsPls] at h; subst h; simp at e
  | .cons t r, vs, i, v, h, e => by
    simp only [IsPls] at h
    obtain ⟨w, ws, rfl, x, y⟩ := h
    cases i with
    | zero => simp at e; subst e; exact ⟨t, rfl, x⟩
    | succ i => exact IsPls.get r y (by simpa using e)
theorem IsPls.length {g : View} : ∀ (f : Fo) {vs : List Value}, IsPls g f vs → vs.length = f.list.length
  | .nil, vs, h => by simp only [IsPls] at h; subst h; rfl
  | .cons t r, vs, h => by
    simp only [IsPls] at h
    obtain ⟨w, ws, rfl, x, y⟩ := h
    simp [Fo.list, IsPls.length r y]
theorem Fo.dep_le : ∀ (f : Fo) {t : Tr}, t ∈ f.list → t.dep ≤ f.dep
  | .nil, t, h => by simp [Fo.list] at h
  | .cons u r, t, h => by
    rcases List.mem_cons.mp h with rfl | h
    · simp only [Fo.dep]; lia
    · have := Fo.dep_le r h; simp only [Fo.dep]; lia
theorem Fo.dep_lt {n : Str} {f : Fo} {t : Tr} (h : t ∈ f.list) : t.dep < (Tr.node n f).dep := by have := Fo.dep_le f h; simp only [Tr.dep]; lia
theorem Tr.kid_lt {u t : Tr} (h : t ∈ u.kids.list) : t.dep < u.dep := by
  cases u with
  | leaf k x => simp [Tr.kids, Fo.list] at h
  | node n f => exact Fo.dep_lt h

def okText (x : Str) : Prop := x.length ≤ 20 ∧ (∀ c ∈ x.cps.toList, c ≠ 10) ∧ ∃ c r, x.cps.toList = c :: r ∧ c ≠ 32
def okTail (x : Str) : Prop := x.length ≤ 20 ∧ ∀ c ∈ x.cps.toList, c ≠ 10
mutual
def Tr.wide : Tr → Prop
  | .leaf k t => okText k ∧ okTail t
  | .node n cs => okText n ∧ cs.list.length ≤ 3 ∧ cs.wide
def Fo.wide : Fo → Prop
  | .nil => True
  | .cons t r => t.wide ∧ r.wide
end
theorem Fo.wide_mem : ∀ (f : Fo) {t : Tr}, f.wide → t ∈ f.list → t.wide
  | .nil, t, _, h => by simp [Fo.list] at h
  | .cons u r, t, hw, h => by
    simp only [Fo.wide] at hw
    rcases List.mem_cons.mp h with rfl | h
    · exact hw.1
    · exact Fo.wide_mem r hw.2 h
theorem Tr.wide_kids {t : Tr} (h : t.wide) : t.kids.list.length ≤ 1000 ∧ t.kids.wide := by
  cases t with
  | leaf k x => simp [Tr.kids, Fo.list, Fo.wide]
  | node n cs => simp only [Tr.wide] at h; exact ⟨Nat.le_trans h.2.1 (by lia), h.2.2⟩
theorem Fo.size_sum : ∀ f : Fo, ((f.list.map fun t => (t.size : Int)).sum) = f.size
  | .nil => rfl
  | .cons t r => by simp only [Fo.list, List.map_cons, List.sum_cons, Fo.size_sum r, Fo.size]; lia

def Tr.head : Tr → Str
  | .leaf k t => if t = k ∨ t = Str.ofString "" then k else k ++ Str.ofString " " ++ t
  | .node n _ => n
theorem max_ge_fold : ∀ f : Fo, ∀ t ∈ f.list, t.hgt ≤ f.hgt
  | .nil, t, h => by simp [Fo.list] at h
  | .cons u r, t, h => by
    rcases List.mem_cons.mp h with rfl | h
    · simp only [Fo.hgt]; lia
    · have := max_ge_fold r t h; simp only [Fo.hgt]; lia
theorem max_mem_fold : ∀ f : Fo, f.hgt = 0 ∨ ∃ t ∈ f.list, t.hgt = f.hgt
  | .nil => .inl rfl
  | .cons u r => by
    simp only [Fo.hgt, Fo.list]
    by_cases h : r.hgt ≤ u.hgt
    · exact .inr ⟨u, by simp, by lia⟩
    · rcases max_mem_fold r with h0 | ⟨t, ht, e⟩
      · omega
      · exact .inr ⟨t, by simp [ht], by lia⟩
theorem max_is {f : Fo} {M : Int} (h1 : M ∈ (f.list.map fun t => (t.hgt : Int)) ++ [0]) (h2 : ∀ a ∈ (f.list.map fun t => (t.hgt : Int)) ++ [0], a ≤ M) : M = f.hgt := by
  have a0 : (0 : Int) ≤ M := h2 0 (by simp)
  have a1 : M ≤ f.hgt := by
    rcases List.mem_append.mp h1 with h | h
    · obtain ⟨t, ht, rfl⟩ := List.mem_map.mp h
      have := max_ge_fold f t ht; lia
    · have := List.mem_singleton.mp h; lia
  rcases max_mem_fold f with h0 | ⟨t, ht, e⟩
  · lia
  · have := h2 (t.hgt : Int) (List.mem_append.mpr (.inl (List.mem_map.mpr ⟨t, ht, rfl⟩))); lia

/-- what a def hands back where nothing of ours is changed -/
abbrev OkInt (Γ : Wd) (f : Addr) (n : Nat) (args : List Value) (g : View) (k : Int) : Prop :=
  ∀ {A : Around} {s₀ : Shared} {hh : Heap} {tk : Nat} {Q E : Value → Shared → Prop}, Rm A n → Sub g hh → (∀ t h' tk' g', Grow [] hh g h' g' → Q (.int k t) (sh s₀ h' tk')) → wpAny Γ.M A (call (.ref f) args) Q E (sh s₀ hh tk)
abbrev OkStr (Γ : Wd) (f : Addr) (n : Nat) (args : List Value) (g : View) (k : Str) : Prop :=
  ∀ {A : Around} {s₀ : Shared} {hh : Heap} {tk : Nat} {Q E : Value → Shared → Prop}, Rm A n → Sub g hh → (∀ t h' tk' g', Grow [] hh g h' g' → Q (.str k t) (sh s₀ h' tk')) → wpAny Γ.M A (call (.ref f) args) Q E (sh s₀ hh tk)
abbrev OkI (Γ : Wd) (f : Addr) (n : Nat) (args : List Value) (g : View) (post : Value → View → Prop) : Prop :=
  ∀ {A : Around} {s₀ : Shared} {hh : Heap} {tk : Nat} {Q E : Value → Shared → Prop}, Rm A n → Sub g hh → (∀ r h' tk' g', Grow [] hh g h' g' → post r g' → Q r (sh s₀ h' tk')) → wpAny Γ.M A (call (.ref f) args) Q E (sh s₀ hh tk)

section
variable {Γ : Wd} {A : Around} {E : Value → Shared → Prop} {s₀ : Shared} {hh : Heap} {tk : Nat} {env : Env} {o : Og} {g g' : View} {m : Str → Option Value} {mu : Mus}
/-- «plain[2] or []» -/
theorem orKids {t : Tr} {v : Value} {p1 p2 p3 p4 p5 : Pos} {kd : Nat} {Q : Value → Shared → Prop} (S : St o g m mu hh) (hv : m (Str.ofString "plain") = some v) (hp : IsPl g t v) (hsz : t.kids.list.length ≤ 1000)
    (h : ∀ l vs h' tk', St o g m mu h' → h'.PlainList l vs.toArray → IsPls g t.kids vs → Q (.ref l) (sh s₀ h' tk'))
    (hL : env.locals = o.L := by rfl) (hk : env.scope.kind = .function := by rfl) (hl : env.kindOf (Str.ofString "plain") = some .local := by rfl) :
    wpAny Γ.M A (eval (.BoolOp .Or [.Subscript (.Name (Str.ofString "plain") p1) (.Constant (.int 2) kd p2) p3, .List [] p4] p5) env) Q E (sh s₀ hh tk) := by
  refine wpAny_Or2 (Subscript_ (nm S hv ?_ hL hk hl))
  cases t with
  | leaf k x =>
    simp only [IsPl] at hp
    obtain ⟨a, tk, tt, rfl, ht⟩ := hp
    refine cInt fun _ _ => (getsT (ht.isTup S.sub) (by decide) (by decide) rfl (truthy_none ?_))
    simp only [Bool.false_eq_true, if_false]
    refine PyProof.Rows.List_ (wpAny_items_nil (newListJ S (by simp) fun l h' S hl => ?_))
    exact h l [] _ _ S hl (by simp [Tr.kids, IsPls])
  | node n cs =>
    simp only [IsPl] at hp
    obtain ⟨a, tk, l, vs, rfl, ht, hlv, hk'⟩ := hp
    have hlen := IsPls.length cs hk'
    have hsz' : vs.length ≤ 1000 := by rw [hlen]; exact hsz
    refine cInt fun _ _ => (getsT (ht.isTup S.sub) (by decide) (by decide) rfl (truthyL (hlv.plain S.sub) (by lia) fun tk => ?_))
    cases hb : vs with
    | nil =>
      simp only [List.isEmpty_nil, Bool.not_true, Bool.false_eq_true, if_false]
      refine PyProof.Rows.List_ (wpAny_items_nil (newListJ S (by simp) fun l h' S hl => ?_))
      exact h l [] _ _ S hl (by rw [hb] at hk'; exact hk')
    | cons w ws =>
      simp only [List.isEmpty_cons, Bool.not_false, if_true]
      exact h l vs _ _ S (hlv.plain S.sub) hk'

theorem count_ok (O : Γ.On g) : ∀ (n : Nat) (t : Tr) (v : Value) (g' : View), Le g g' → t.dep < n → t.wide → IsPl g' t v → OkInt Γ 218 n [v] g' t.size := by
  intro n
  induction n with
  | zero => intro t v g' _ h; exact absurd h (Nat.not_lt_zero _)
  | succ n ih =>
    intro t v gb hle₀ hd hw hp A s₀ hh tk Q E r hs ret
    have O₀ := O.mono hle₀
    have hw1 := Tr.wide_kids hw
    refine enter (mu := []) (W := []) (binds := [(Str.ofString "plain", v)]) O₀ hs r (by rfl) (by rfl) (BindsTo.of_eq (by rfl)) (by simp) (by simp) (by decide) (by rfl) fun h₁ tk L S B => ?_
    have r' : ∀ env, Rm (A.deeper env) n := fun env => r.deeper
    refine wpAny_execs_cons ?_
    refine wpAny_Return_some ?_
    refine wpAny_BinOp ?_
    refine cInt fun _ _ => ?_
    refine callB O₀ S.sub b_sum bb_sum (by decide) ?_
    refine wpAny_items_cons ?_
    refine comp_start (cl := []) (by rfl) (by rfl) (by decide) ?_
    refine orKids S rfl hp hw1.1 fun l vs h' tk' S hl hk => ?_
    have hlen := IsPls.length _ hk
    refine comp_list S (r' _).1 hl (by lia) (fun i ys g'' => IntsAre ys ((t.kids.list.take i).map fun t => (t.size : Int))) .nil (fun i ys g'' h => by have := h.length; simp at this; lia) (by decide) (by rfl) (by rfl) ?_ ?_
    · intro i v ys g₁ h' tk' C m' E' hi hj hle S'
      refine tests_nil (ite_pos rfl ?_)
      refine Exists.elim (IsPls.get _ hk hi) fun u hu => ?_
      have hmem : u ∈ t.kids.list := List.mem_of_getElem? hu.1
      refine callG (O₀.mono hle) S'.sub n_count (by kernel_rfl) ?_
      refine wpAny_items_cons ?_
      refine Mine.nm (by assumption) rfl ?_
      refine wpAny_items_nil ?_
      refine ⟨_, O₀.mono hle, S'.sub, ih u v g₁ (hle₀.trans hle) (by have := Tr.kid_lt hmem; lia) (Fo.wide_mem _ hw1.2 hmem) (IsPl.mono hle _ hu.2) (r' _) S'.sub fun t3 h'' tk'' g₂ G => CAfter.of (S'.after G) ?_⟩
      rw [List.take_add_one, hu.1]
      simp only [Option.toList_some, List.map_append, List.map_cons, List.map_nil]
      exact ints_snoc hj _ _
    · intro D h'' tk'' g₁ g₂ ys hj hle1 hle2 hD S
      rw [hlen, List.take_length] at hj
      refine wpAny_items_nil (sumL S (r' _).1 (hD.plain S.sub) hj fun h3 tk3 t3 S => ?_)
      rw [Fo.size_sum]
      have e : (1 : Int) + (t.kids.size : Int) = (t.size : Int) := by cases t <;> simp [Tr.size, Tr.kids, Fo.size]
      rw [← e] at ret
      exact addI fun _ _ => ret _ _ _ _ (B S)
theorem height_ok (O : Γ.On g) : ∀ (n : Nat) (t : Tr) (v : Value) (g' : View), Le g g' → t.dep < n → t.wide → IsPl g' t v → OkInt Γ 223 n [v] g' t.hgt := by
  intro n
  induction n with
  | zero => intro t v g' _ h; exact absurd h (Nat.not_lt_zero _)
  | succ n ih =>
    intro t v gb hle₀ hd hw hp A s₀ hh tk Q E r hs ret
    have O₀ := O.mono hle₀
    refine enter (mu := []) (W := []) (binds := [(Str.ofString "plain", v)]) O₀ hs r (by rfl) (by rfl) (BindsTo.of_eq (by rfl)) (by simp) (by simp) (by decide) (by rfl) fun h₁ tk L S B => ?_
    have r' : ∀ env, Rm (A.deeper env) n := fun env => r.deeper
    cases t with
    | leaf k x =>
      simp only [IsPl] at hp
      obtain ⟨a, tk, tt, rfl, ht⟩ := hp
      refine wpAny_execs_cons ?_
      refine wpAny_If ?_
      refine wpAny_isTrue_Compare1 ?_
      refine Subscript_ ?_
      refine Mine.nm (by assumption) rfl ?_
      refine cInt fun _ _ => ?_
      refine getsT (ht.isTup S.sub) (by decide) (by decide) rfl ?_
      refine wpAny_Constant_none ?_
      refine is_none ?_
      refine wpAny_truthy_bool ?_
      refine ite_pos rfl ?_
      refine wpAny_execs_cons ?_
      refine wpAny_Return_some ?_
      refine cInt fun _ _ => ?_
      exact ret _ _ _ _ (B S)
    | node nm cs =>
      simp only [IsPl] at hp
      obtain ⟨a, tk, l, vs, rfl, ht, hlv, hk⟩ := hp
      have hlen := IsPls.length cs hk
      have hw2 : cs.list.length ≤ 1000 ∧ cs.wide := Tr.wide_kids hw
      have e : (1 : Int) + (cs.hgt : Int) = ((Tr.node nm cs).hgt : Int) := by simp [Tr.hgt]
      rw [← e] at ret
      refine wpAny_execs_cons ?_
      refine wpAny_If ?_
      refine wpAny_isTrue_Compare1 ?_
      refine Subscript_ ?_
      refine Mine.nm (by assumption) rfl ?_
      refine cInt fun _ _ => ?_
      refine getsT (ht.isTup S.sub) (by decide) (by decide) rfl ?_
      refine wpAny_Constant_none ?_
      refine is_none ?_
      refine wpAny_truthy_bool ?_
      refine ite_neg (fun h => by cases h) ?_
      refine wpAny_execs_nil ?_
      refine wpAny_execs_cons ?_
      refine wpAny_Return_some ?_
      refine wpAny_BinOp ?_
      refine cInt fun _ _ => ?_
      refine callB O₀ S.sub b_max bb_max (by decide) ?_
      refine wpAny_items_cons ?_
      refine wpAny_BinOp ?_
      refine comp_start (cl := []) (by rfl) (by rfl) (by decide) ?_
      refine Subscript_ ?_
      refine Mine.nm (by assumption) rfl ?_
      refine cInt fun _ _ => ?_
      refine getsT (ht.isTup S.sub) (by decide) (by decide) rfl ?_
      refine comp_list S (r' _).1 (hlv.plain S.sub) (by lia) (fun i ys g'' => IntsAre ys ((cs.list.take i).map fun t => (t.hgt : Int))) .nil (fun i ys g'' h => by have := h.length; simp at this; lia) (by decide) (by rfl) (by rfl) ?_ ?_
      · intro i v ys g₁ h' tk' C m' E' hi hj hle S'
        refine tests_nil (ite_pos rfl ?_)
        refine Exists.elim (IsPls.get _ hk hi) fun u hu => ?_
        have hmem : u ∈ cs.list := List.mem_of_getElem? hu.1
        refine callG (O₀.mono hle) S'.sub n_height (by kernel_rfl) ?_
        refine wpAny_items_cons ?_
        refine Mine.nm (by assumption) rfl ?_
        refine wpAny_items_nil ?_
        refine ⟨_, O₀.mono hle, S'.sub, ih u v g₁ (hle₀.trans hle) (by have := Fo.dep_lt (n := nm) hmem; lia) (Fo.wide_mem _ hw2.2 hmem) (IsPl.mono hle _ hu.2) (r' _) S'.sub fun t3 h'' tk'' g₂ G => CAfter.of (S'.after G) ?_⟩
        rw [List.take_add_one, hu.1]
        simp only [Option.toList_some, List.map_append, List.map_cons, List.map_nil]
        exact ints_snoc hj _ _
      · intro D h'' tk'' g₁ g₂ ys hj hle1 hle2 hD S
        rw [hlen, List.take_length] at hj
        have hyl := hj.length
        simp only [List.length_map] at hyl
        refine PyProof.Rows.List_ ?_
        refine wpAny_items_cons ?_
        refine cInt fun _ _ => ?_
        refine wpAny_items_nil ?_
        refine newListM S (by simp) fun l1 h1 S => ?_
        refine addL S (hD.plain S.sub) S.mu0 (by simp; lia) fun l2 h2 g3 hle3 hl2 S => ?_
        refine wpAny_items_nil ?_
        refine maxL S (r' _).1 (hl2.plain S.sub) (ints_snoc hj 0 _) (by simp) fun h3 tk3 t3 M S hM1 hM2 => ?_
        have hM := max_is hM1 hM2
        subst hM
        exact addI fun _ _ => ret _ _ _ _ (B S)
theorem len_blank : (Str.ofString " ").length = 1 := by decide +kernel
theorem str_app_len (a b : Str) : (a ++ b).length = a.length + b.length := strLen_append a b
theorem tests_in (x k : Str) (t1 t2 : Tok) : (!([Value.str (Str.ofString "") t1, Value.str k t2].toArray.any (fun y => match y with | .str z _ => z == x | _ => false))) = decide (¬ (x = k ∨ x = Str.ofString "")) := by
  by_cases h1 : Str.ofString "" = x
  · subst h1; simp
  · by_cases h2 : k = x
    · subst h2; simp
    · have h1' : ¬ x = Str.ofString "" := fun e => h1 e.symm
      have h2' : ¬ x = k := fun e => h2 e.symm
      simp [h1, h2, h1', h2']
theorem head_ok (O : Γ.On g) (t : Tr) (v : Value) (hw : t.wide) (hp : IsPl g t v) : OkStr Γ 201 1 [v] g t.head := by
  intro A s₀ hh tk Q E r hs ret
  refine enter (mu := []) (W := []) (binds := [(Str.ofString "plain", v)]) O hs r (by rfl) (by rfl) (BindsTo.of_eq (by rfl)) (by simp) (by simp) (by decide) (by rfl) fun h₁ tk L S B => ?_
  cases t with
  | leaf k x =>
    simp only [IsPl] at hp
    obtain ⟨a, tk, tt, rfl, ht⟩ := hp
    have hw' : okText k ∧ okTail x := by simpa only [Tr.wide] using hw
    have hk1 := hw'.1.1
    have hx1 := hw'.2.1
    refine wpAny_execs_cons ?_
    refine wpAny_If ?_
    refine wpAny_isTrue_BoolOp ?_
    refine wpAny_allTrue_And_cons ?_
    refine wpAny_isTrue_Compare1 ?_
    refine Subscript_ ?_
    refine Mine.nm (by assumption) rfl ?_
    refine cInt fun _ _ => ?_
    refine getsT (ht.isTup S.sub) (by decide) (by decide) rfl ?_
    refine wpAny_Constant_none ?_
    refine is_none ?_
    refine wpAny_truthy_bool ?_
    refine ite_pos rfl ?_
    refine wpAny_allTrue_And_cons ?_
    refine wpAny_isTrue_Compare1 ?_
    refine Subscript_ ?_
    refine Mine.nm (by assumption) rfl ?_
    refine cInt fun _ _ => ?_
    refine getsT (ht.isTup S.sub) (by decide) (by decide) rfl ?_
    refine PyProof.Rows.Tuple_ ?_
    refine wpAny_items_cons ?_
    refine cStr fun _ _ => ?_
    refine wpAny_items_cons ?_
    refine Subscript_ ?_
    refine Mine.nm (by assumption) rfl ?_
    refine cInt fun _ _ => ?_
    refine getsT (ht.isTup S.sub) (by decide) (by decide) rfl ?_
    refine wpAny_items_nil ?_
    refine newTupI S (by simp) fun l h' g' hle hT S => ?_
    have ht' := ht.mono hle
    refine SeqAt.notIn_tupleAt (fun y => match y with | .str z _ => z == x | _ => false) (hT.isTup S.sub) (fun y hy => ?_) (wpAny_truthy_bool ?_)
    · simp only [List.mem_toArray, List.mem_cons, List.not_mem_nil, or_false] at hy
      rcases hy with rfl | rfl <;> exact SeqAt.EqAt.str_str _ _ _ _
    · rw [tests_in]
      by_cases hc : x = k ∨ x = Str.ofString ""
      · rw [show (Tr.leaf k x).head = k from if_pos hc] at ret
        refine ite_neg (fun h => of_decide_eq_true h hc) ?_
        refine ite_neg (by simp) ?_
        refine wpAny_execs_nil ?_
        refine wpAny_execs_cons ?_
        refine wpAny_Return_some ?_
        refine Subscript_ ?_
        refine Mine.nm (by assumption) rfl ?_
        refine cInt fun _ _ => ?_
        refine getsT (ht'.isTup S.sub) (by decide) (by decide) rfl ?_
        exact ret _ _ _ _ (B S)
      · rw [show (Tr.leaf k x).head = k ++ Str.ofString " " ++ x from if_neg hc] at ret
        refine ite_pos (decide_eq_true hc) ?_
        refine wpAny_allTrue_And_nil ?_
        refine ite_pos rfl ?_
        refine wpAny_execs_cons ?_
        refine wpAny_Return_some ?_
        refine wpAny_BinOp ?_
        refine wpAny_BinOp ?_
        refine Subscript_ ?_
        refine Mine.nm (by assumption) rfl ?_
        refine cInt fun _ _ => ?_
        refine getsT (ht'.isTup S.sub) (by decide) (by decide) rfl ?_
        refine cStr fun _ _ => ?_
        refine addS (by rw [len_blank, sizeLine_eq]; lia) fun _ _ => ?_
        refine Subscript_ ?_
        refine Mine.nm (by assumption) rfl ?_
        refine cInt fun _ _ => ?_
        refine getsT (ht'.isTup S.sub) (by decide) (by decide) rfl ?_
        refine addS (by rw [str_app_len, len_blank, sizeLine_eq]; lia) fun _ _ => ?_
        exact ret _ _ _ _ (B S)
  | node n cs =>
    simp only [IsPl] at hp
    obtain ⟨a, tk, l, vs, rfl, ht, hlv, hk⟩ := hp
    refine wpAny_execs_cons ?_
    refine wpAny_If ?_
    refine wpAny_isTrue_BoolOp ?_
    refine wpAny_allTrue_And_cons ?_
    refine wpAny_isTrue_Compare1 ?_
    refine Subscript_ ?_
    refine Mine.nm (by assumption) rfl ?_
    refine cInt fun _ _ => ?_
    refine getsT (ht.isTup S.sub) (by decide) (by decide) rfl ?_
    refine wpAny_Constant_none ?_
    refine is_none ?_
    refine wpAny_truthy_bool ?_
    refine ite_neg (fun h => by cases h) ?_
    refine ite_neg (fun h => by cases h) ?_
    refine wpAny_execs_nil ?_
    refine wpAny_execs_cons ?_
    refine wpAny_Return_some ?_
    refine Subscript_ ?_
    refine Mine.nm (by assumption) rfl ?_
    refine cInt fun _ _ => ?_
    refine getsT (ht.isTup S.sub) (by decide) (by decide) rfl ?_
    exact ret _ _ _ _ (B S)
end

inductive All2 {α : Type} (R : α → Value → Prop) : List α → List Value → Prop where
  | nil : All2 R [] []
  | cons {t v ts vs} : R t v → All2 R ts vs → All2 R (t :: ts) (v :: vs)
theorem All2.mono {α : Type} {R R' : α → Value → Prop} {ts vs} (h : ∀ t v, R t v → R' t v) (x : All2 R ts vs) : All2 R' ts vs := by
  induction x with
  | nil => exact .nil
  | cons a _ ih => exact .cons (h _ _ a) ih
theorem All2.snoc {α : Type} {R : α → Value → Prop} {ts vs t v} (x : All2 R ts vs) (r : R t v) : All2 R (ts ++ [t]) (vs ++ [v]) := by
  induction x with
  | nil => exact .cons r .nil
  | cons a _ ih => exact .cons a ih
theorem All2.length {α : Type} {R : α → Value → Prop} {ts vs} (x : All2 R ts vs) : vs.length = ts.length := by
  induction x with
  | nil => rfl
  | cons a _ ih => simp [ih]
theorem All2.get {α : Type} {R : α → Value → Prop} {ts vs} (x : All2 R ts vs) : ∀ {i : Nat} {v : Value}, vs[i]? = some v → ∃ t, ts[i]? = some t ∧ R t v := by
  induction x with
  | nil => intro i v e; simp at e
  | cons a _ ih =>
    intro i v e
    cases i with
    | zero => simp at e; subst e; exact ⟨_, rfl, a⟩
    | succ i => simpa using ih (by simpa using e)
theorem IsPls.all {g : View} : ∀ (f : Fo) {vs : List Value}, IsPls g f vs → All2 (IsPl g) f.list vs
  | .nil, vs, h => by simp only [IsPls] at h; subst h; exact .nil
  | .cons t r, vs, h => by simp only [IsPls] at h; obtain ⟨v, ws, rfl, a, b⟩ := h; exact .cons a (IsPls.all r b)
mutual
def IsNe (g : View) : Tr → Value → Prop
  | .leaf k t, v => ∃ a tk l, v = .ref a ∧ LV g a [.str (Tr.leaf k t).head tk, .ref l] ∧ LV g l []
  | .node n cs, v => ∃ a tk l vs, v = .ref a ∧ LV g a [.str n tk, .ref l] ∧ LV g l vs ∧ IsNes g cs vs
def IsNes (g : View) : Fo → List Value → Prop
  | .nil, vs => vs = []
  | .cons t r, vs => ∃ v ws, vs = v :: ws ∧ IsNe g t v ∧ IsNes g r ws
end
mutual
theorem IsNe.mono {g g' : View} (l : Le g g') : ∀ (t : Tr) {v : Value}, IsNe g t v → IsNe g' t v
  | .leaf k t, v, h => by simp only [IsNe] at h ⊢; obtain ⟨a, tk, b, e, x, y⟩ := h; exact ⟨a, tk, b, e, x.mono l, y.mono l⟩
  | .node n cs, v, h => by simp only [IsNe] at h ⊢; obtain ⟨a, tk, b, vs, e, x, y, z⟩ := h; exact ⟨a, tk, b, vs, e, x.mono l, y.mono l, IsNes.mono l cs z⟩
theorem IsNes.mono {g g' : View} (l : Le g g') : ∀ (f : Fo) {vs : List Value}, IsNes g f vs → IsNes g' f vs
  | .nil, vs, h => by simp only [IsNes] at h ⊢; exact h
  | .cons t r, vs, h => by simp only [IsNes] at h ⊢; obtain ⟨v, ws, e, x, y⟩ := h; exact ⟨v, ws, e, IsNe.mono l t x, IsNes.mono l r y⟩
end
theorem IsNes.of {g : View} : ∀ (f : Fo) {vs : List Value}, All2 (IsNe g) f.list vs → IsNes g f vs
  | .nil, vs, h => by simp only [IsNes]; cases h; rfl
  | .cons t r, vs, h => by simp only [IsNes]; cases h with | cons a b => exact ⟨_, _, rfl, a, IsNes.of r b⟩
theorem IsNe.mk {g : View} {t : Tr} {a l : Addr} {tk : Tok} {vs : List Value} (h1 : LV g a [.str t.head tk, .ref l]) (h2 : LV g l vs) (h3 : IsNes g t.kids vs) : IsNe g t (.ref a) := by
  cases t with
  | leaf k x => simp only [IsNe]; simp only [Tr.kids, IsNes] at h3; subst h3; exact ⟨a, tk, l, rfl, h1, h2⟩
  | node n cs => simp only [IsNe]; exact ⟨a, tk, l, vs, rfl, h1, h2, h3⟩
section
variable {Γ : Wd} {A : Around} {E : Value → Shared → Prop} {s₀ : Shared} {hh : Heap} {tk : Nat} {env : Env} {o : Og} {g g' : View} {m : Str → Option Value} {mu : Mus}
theorem nest_ok (O : Γ.On g) : ∀ (n : Nat) (t : Tr) (v : Value) (g' : View), Le g g' → t.dep < n → t.wide → IsPl g' t v → OkI Γ 206 (n + 1) [v] g' (fun r g'' => IsNe g'' t r) := by
  intro n
  induction n with
  | zero => intro t v g' _ h; exact absurd h (Nat.not_lt_zero _)
  | succ n ih =>
    intro t v gb hle₀ hd hw hp A s₀ hh tk Q E r hs ret
    have O₀ := O.mono hle₀
    have hw1 := Tr.wide_kids hw
    refine enter (mu := []) (W := []) (binds := [(Str.ofString "plain", v)]) O₀ hs r (by rfl) (by rfl) (BindsTo.of_eq (by rfl)) (by simp) (by simp) (by decide) (by rfl) fun h₁ tk L S B => ?_
    have r' : ∀ env, Rm (A.deeper env) (n + 1) := fun env => r.deeper
    refine wpAny_execs_cons ?_
    refine wpAny_Return_some ?_
    refine PyProof.Rows.List_ ?_
    refine wpAny_items_cons ?_
    refine callG O₀ S.sub n_head (by kernel_rfl) ?_
    refine wpAny_items_cons ?_
    refine Mine.nm (by assumption) rfl ?_
    refine wpAny_items_nil ?_
    refine ⟨_, O₀, S.sub, head_ok O₀ t v hw hp ((r' _).le) S.sub fun t1 h1 tk1 g1 G1 => ?_⟩
    replace S := S.after G1
    refine wpAny_items_cons ?_
    refine comp_start (cl := []) (by rfl) (by rfl) (by decide) ?_
    refine orKids S rfl (IsPl.mono G1.le _ hp) hw1.1 fun l vs h' tk' S hl hk => ?_
    have hlen := IsPls.length _ hk
    refine comp_list S (r' _).1 hl (by lia) (fun i ys g'' => All2 (IsNe g'') (t.kids.list.take i) ys) .nil (fun i ys g'' h => by have := h.length; simp at this; lia) (by decide) (by rfl) (by rfl) ?_ ?_
    · intro i v ys g₁ h' tk' C m' E' hi hj hle S'
      refine tests_nil (ite_pos rfl ?_)
      refine Exists.elim (IsPls.get _ hk hi) fun u hu => ?_
      have hmem : u ∈ t.kids.list := List.mem_of_getElem? hu.1
      have hle2 := G1.le.trans hle
      refine callG (O₀.mono hle2) S'.sub n_nest (by kernel_rfl) ?_
      refine wpAny_items_cons ?_
      refine Mine.nm (by assumption) rfl ?_
      refine wpAny_items_nil ?_
      refine ⟨_, O₀.mono hle2, S'.sub, ih u v g₁ (hle₀.trans hle2) (by have := Tr.kid_lt hmem; lia) (Fo.wide_mem _ hw1.2 hmem) (IsPl.mono hle _ hu.2) (r' _) S'.sub fun r h'' tk'' g₂ G post => CAfter.of (S'.after G) ?_⟩
      rw [List.take_add_one, hu.1]
      exact (hj.mono fun t v h => IsNe.mono G.le t h).snoc post
    · intro D h'' tk'' g₁ g₂ ys hj hle1 hle2 hD S
      rw [hlen, List.take_length] at hj
      refine wpAny_items_nil ?_
      refine newListI S (by simp) fun l1 h1 g3 hle3 hl1 S => ?_
      exact ret _ _ _ _ (B S) (IsNe.mk hl1 (hD.mono hle3) (IsNes.of _ (hj.mono fun t v h => IsNe.mono (hle2.trans hle3) t h)))

theorem kinds_ok (O : Γ.On g) {A : Around} {s₀ : Shared} {hh : Heap} {tk : Nat} {Q E : Value → Shared → Prop} (r : Rm A 1) (hs : Sub g hh)
    (h : ∀ l t1 t2 t3 h' tk' g', Grow [] hh g h' g' → LV g' l [.str (Str.ofString "a") t1, .str (Str.ofString "'+'") t2, .str (Str.ofString "NUMBER") t3] → Q (.ref l) (sh s₀ h' tk')) :
    wpAny Γ.M A (call (.ref 184) []) Q E (sh s₀ hh tk) := by
  refine enter (mu := []) (W := []) (binds := []) O hs r (by rfl) (by rfl) (BindsTo.of_eq (by rfl)) (by simp) (by simp) (by decide) (by rfl) fun h₁ tk L S B => ?_
  refine wpAny_execs_cons ?_
  refine wpAny_Return_some ?_
  refine PyProof.Rows.List_ ?_
  refine wpAny_items_cons ?_
  refine cStr fun _ _ => ?_
  refine wpAny_items_cons ?_
  refine cStr fun _ _ => ?_
  refine wpAny_items_cons ?_
  refine cStr fun _ _ => ?_
  refine wpAny_items_nil ?_
  refine newListI S (by simp) fun l1 h1 g3 hle3 hl1 S => ?_
  exact h _ _ _ _ _ _ _ (B S) hl1
end

def CV (g : View) (c : Addr) (v : Value) : Prop := ∃ o, g c = some o ∧ o.data = .cell (some v)
theorem CV.mono {g g' : View} {c v} (x : CV g c v) (l : Le g g') : CV g' c v := by obtain ⟨o, e, d⟩ := x; exact ⟨o, l _ _ e, d⟩
section
variable {Γ : Wd} {A : Around} {E : Value → Shared → Prop} {s₀ : Shared} {hh : Heap} {tk : Nat} {env : Env} {o : Og} {g g' : View} {m : Str → Option Value} {mu : Mus} {x : Str} {v : Value} {pos : Pos}
theorem nmC {c : Addr} {Q : Value → Shared → Prop} (S : Sub g hh) (hc : CV g c v) (h : Q v (sh s₀ hh tk)) (hcl : env.cells.lookup x = some c := by rfl) (hk : env.scope.kind = .function := by rfl) (hl : env.kindOf x = some .cell := by rfl) (hd : (x == ("__debug__" : Str)) = false := by decide) :
    wpAny Γ.M A (eval (.Name x pos) env) Q E (sh s₀ hh tk) := by
  obtain ⟨ob, e, d⟩ := hc
  exact wpAny_Name (wpAny_loadName_cell (s := sh s₀ hh tk) hk hl hcl ⟨ob, S _ _ e, d⟩ h) hd
theorem rangeC {n : Int} {t : Tok} {Q : Value → Shared → Prop} (S : St o g m mu hh) (h : ∀ r h' tk' t u v, St o g m mu h' → IsRange h' r 0 n 1 t u v → Q (.ref r) (sh s₀ h' tk')) : wpAny Γ.M A (call (.type "range") [.int n t]) Q E (sh s₀ hh tk) :=
  call_range_1 (s := sh s₀ hh tk) (h _ _ _ _ _ _ (S.junk _) (Heap.get?_push_size _ rfl))

/-- into a def with two cells, which never change -/
theorem enterC2 {f : Addr} {name qual : Str} {params : Arguments} {body : List Stmt} {scope : PySem.Scope} {dV kV doc pm cdv ct oc : Value} {an od : Option Addr} {osl : Array (Option Value)} {args : List Value} {binds : List (Str × Value)} {n : Nat} {W : List Addr} {Q : Value → Shared → Prop} {x1 x2 : Str} {v1 v2 : Value}
    (O : Γ.On g) (hs : Sub g hh) (r : Rm A n)
    (ho : (KF Γ).lookup f = some ⟨oc, od, .func (fnOf name qual params body scope dV kV doc pm an cdv ct), osl⟩) (hcd : codeIn (KF Γ) cdv qual = true)
    (hbind : bindArgs (fnOf name qual params body scope dV kV doc pm an cdv ct) ⟨args, []⟩ = pure binds)
    (hmu : ∀ p ∈ mu, hh.PlainList p.1 p.2.toArray ∧ g p.1 = none ∧ p.1 ∈ W) (hnd : (mu.map (·.1)).Nodup)
    (hcl : ∀ L, cellsFrom (L + 1) scope.names [] = [(x2, L + 1 + 1), (x1, L + 1)])
    (hkind : ∀ k, ∀ x ∈ binds, scope.names.lookup x.1 = some .local ∨ (scope.names.lookup x.1 = some .cell ∧ ((cellsFrom (k + 1) scope.names []).lookup x.1).isSome = true))
    (hb1 : ∀ L, bindC (callEnvC (fnOf name qual params body scope dV kV doc pm an cdv ct) L f).kindOf binds (fun _ => none) x1 = some v1) (hb2 : ∀ L, bindC (callEnvC (fnOf name qual params body scope dV kV doc pm an cdv ct) L f).kindOf binds (fun _ => none) x2 = some v2)
    (hne : (x1 == x2) = false)
    (h : ∀ h₁ tk' L g1 m, Le g g1 → CV g1 (L + 1) v1 → CV g1 (L + 1 + 1) v2 → St ⟨h₁, g1, L :: W, L⟩ g1 m mu h₁ →
      (∀ {g' m' mu' h'}, St ⟨h₁, g1, L :: W, L⟩ g' m' mu' h' → Grow W hh g h' g') →
      wpAny Γ.M (A.deeper (envOfC qual scope L f cdv)) (execs body (envOfC qual scope L f cdv))
        (fun fl s' => Q (match fl with | .ret v => v | _ => .none) s') (fun _ _ => False) (sh s₀ h₁ tk'))
    (hco : scope.isCoroutine = false := by rfl) (hgen : scope.isGenerator = false := by rfl) (hk : scope.kind = .function := by rfl) :
    wpAny Γ.M A (call (.ref f) args) Q E (sh s₀ hh tk) := by
  have hs' : Sub g (sh s₀ hh tk).heap := hs
  refine wpAny_call (codeAny_call_cells (s := sh s₀ hh tk) (fd := fnOf name qual params body scope dV kV doc pm an cdv ct) (body := body) (binds := binds) r.depth ((O.K hs') _ _ ho) rfl (O.top hs').nolimit (codeRec_of (O.K hs') hcd) rfl hbind rfl (hkind _) (fun s₁ X => ?_) hco hgen hk)
  have hk₁ : ∀ b o, hh.get? b = some o → s₁.heap.get? b = some o := X.toInCall.keep
  obtain ⟨h₁, tk', e1⟩ := X.toInCall.same
  have e2 : s₁ = sh s₀ h₁ tk' := e1
  clear e1
  have hns : s₁.heap.Ns hh.objs.size _ := X.toInCall.ns
  have hcells : (callEnvC (fnOf name qual params body scope dV kV doc pm an cdv ct) hh.objs.size f).cells = [(x2, hh.objs.size + 1 + 1), (x1, hh.objs.size + 1)] := hcl _
  have c1 := X.cell x1 (hh.objs.size + 1) (by show List.lookup x1 (callEnvC (fnOf name qual params body scope dV kV doc pm an cdv ct) hh.objs.size f).cells = _; rw [hcells]; simp [List.lookup, hne])
  have c2 := X.cell x2 (hh.objs.size + 1 + 1) (by show List.lookup x2 (callEnvC (fnOf name qual params body scope dV kV doc pm an cdv ct) hh.objs.size f).cells = _; rw [hcells]; simp [List.lookup])
  have c1' : s₁.heap.IsCell (hh.objs.size + 1) (some v1) := (hb1 hh.objs.size) ▸ c1
  have c2' : s₁.heap.IsCell (hh.objs.size + 1 + 1) (some v2) := (hb2 hh.objs.size) ▸ c2
  clear c1 c2 X
  subst e2
  obtain ⟨o1, p1, d1⟩ := c1'
  obtain ⟨o2, p2, d2⟩ := c2'
  replace p1 : h₁.get? (hh.objs.size + 1) = some o1 := p1
  replace p2 : h₁.get? (hh.objs.size + 1 + 1) = some o2 := p2
  replace hk₁ : ∀ b o, hh.get? b = some o → h₁.get? b = some o := hk₁
  obtain ⟨m9, hns⟩ : ∃ m, h₁.Ns hh.objs.size m := ⟨_, hns⟩
  have n1 : g (hh.objs.size + 1) = none := hs.fresh (Nat.le_succ _)
  have n2 : g (hh.objs.size + 1 + 1) = none := hs.fresh (Nat.le_succ_of_le (Nat.le_succ _))
  have n2' : (g.set (hh.objs.size + 1) o1) (hh.objs.size + 1 + 1) = none := by simp [View.set, n2]
  have hle : Le g ((g.set (hh.objs.size + 1) o1).set (hh.objs.size + 1 + 1) o2) := (Le.set n1).trans (Le.set n2')
  have vw : ∀ b, ((g.set (hh.objs.size + 1) o1).set (hh.objs.size + 1 + 1) o2) b ≠ none → g b ≠ none ∨ hh.get? b = none := fun b hb => by
    by_cases hb2 : b = hh.objs.size + 1 + 1
    · subst hb2; exact .inr (get?_none_ge (Nat.le_succ_of_le (Nat.le_succ _)))
    · by_cases hb1 : b = hh.objs.size + 1
      · subst hb1; exact .inr (get?_none_ge (Nat.le_succ _))
      · left; simpa [View.set, hb1, hb2] using hb
  have hsub : Sub ((g.set (hh.objs.size + 1) o1).set (hh.objs.size + 1 + 1) o2) h₁ := fun b x hb => by
    by_cases hb2 : b = hh.objs.size + 1 + 1
    · subst hb2; rw [View.set_self] at hb; cases hb; exact p2
    · by_cases hb1 : b = hh.objs.size + 1
      · subst hb1
        have : (g.set (hh.objs.size + 1) o1) (hh.objs.size + 1) = some x := by simpa [View.set] using hb
        rw [View.set_self] at this; cases this; exact p1
      · exact hk₁ _ _ (hs _ _ (by simpa [View.set, hb1, hb2] using hb))
  have hidL : ((g.set (hh.objs.size + 1) o1).set (hh.objs.size + 1 + 1) o2) hh.objs.size = none := by
    have := hs.fresh (Nat.le_refl hh.objs.size)
    simp only [View.set]
    rw [if_neg (Nat.ne_of_lt (Nat.lt_succ_of_lt (Nat.lt_succ_self _))), if_neg (Nat.ne_of_lt (Nat.lt_succ_self _))]; exact this
  have S : St ⟨h₁, (g.set (hh.objs.size + 1) o1).set (hh.objs.size + 1 + 1) o2, hh.objs.size :: W, hh.objs.size⟩ ((g.set (hh.objs.size + 1) o1).set (hh.objs.size + 1 + 1) o2) m9 mu h₁ := by
    refine ⟨hns, Grow.refl hsub, hidL, fun p hp => ?_, hnd⟩
    obtain ⟨⟨n, a1⟩, a2, a3⟩ := hmu p hp
    have hlt := Heap.lt_size a1
    refine ⟨⟨n, hk₁ _ _ a1⟩, ?_, Nat.ne_of_lt hlt, .inr (List.mem_cons_of_mem _ a3)⟩
    simp only [View.set]
    rw [if_neg (Nat.ne_of_lt (Nat.lt_succ_of_lt (Nat.lt_succ_of_lt hlt))), if_neg (Nat.ne_of_lt (Nat.lt_succ_of_lt hlt))]; exact a2
  refine wpAny_mono (h h₁ tk' hh.objs.size _ m9 hle ⟨o1, by simp [View.set], d1⟩ ⟨o2, by simp [View.set], d2⟩ S fun {g' m' mu' h'} S' => ?_) (fun fl s' hl => ?_) fun _ _ e => e.elim
  · have up : ∀ b, hh.get? b ≠ none → h₁.get? b ≠ none := fun b e => by
      cases e1 : hh.get? b with
      | none => exact absurd e1 e
      | some x => rw [hk₁ _ _ e1]; simp
    refine ⟨hle.trans S'.gr.le, fun b e => ?_, S'.sub, fun b x e hb => S'.gr.old b x (hk₁ _ _ e) ?_, fun b hb e => S'.gr.live b (List.mem_cons_of_mem _ hb) (up b e)⟩
    · rcases S'.gr.fr b e with e1 | e1
      · exact vw b e1
      · exact .inr (Classical.byContradiction fun e2 => up b e2 e1)
    · intro hm
      rcases List.mem_cons.mp hm with e1 | e1
      · subst e1; exact absurd (Heap.lt_size e) (Nat.lt_irrefl _)
      · exact hb e1
  · cases fl <;> exact hl

theorem CAfter.of1 {tk₀ : Nat} {J : Nat → List Value → View → List Value → Prop} {i : Nat} {ys : List Value} {h : Heap} {C pa : Addr} {pv : List Value} (S : St ⟨hh, g, [pa], C⟩ g' m [(pa, pv)] h) (hj : J i ys g' pv) :
    CAfter [pa] (sh s₀ hh tk₀) g (fun ys g mu => ∃ pv, mu = [(pa, pv)] ∧ J i ys g pv) ys (sh s₀ h tk) :=
  ⟨h, tk, g', [(pa, pv)], rfl, S.gr, fun p hp => by
    obtain ⟨a, b, _, _⟩ := S.mus p hp
    rw [List.mem_singleton.mp hp] at a b ⊢; exact ⟨a, by simp, b⟩, by simp, pv, rfl, hj⟩
/-- over a range, with one list that the elements change -/
theorem comp_range1 {elt iter : Expr} {x : Str} {px : Pos} {scope : PySem.Scope} {cl : List (Str × Addr)} {pos : Pos} {Q : Value → Shared → Prop} {r pa : Addr} {pv : List Value} {n : Int} {t u w : Tok}
    (S : St o g m [(pa, pv)] hh) (hpa : pa ∈ o.W) (hA : A.handled = none) (hr : IsRange hh r 0 n 1 t u w) (hn0 : 0 ≤ n) (hn : n ≤ 1000) (J : Nat → List Value → View → List Value → Prop) (hJ : J 0 [] g pv) (hlen : ∀ i ys g pv, J i ys g pv → ys.length ≤ i)
    (hcell : ∀ y ∈ scope.names, y.2 ≠ .cell) (hkind : scope.kind = .function) (hx : scope.names.lookup x = some .local)
    (turn : ∀ (i : Nat) (v : Value) (ys : List Value) (g' : View) (pv' : List Value) (h' : Heap) (tk' : Nat) (C : Addr) (m : Str → Option Value) (E' : Value → Shared → Prop), i < n.toNat → J i ys g' pv' → Le g g' → St ⟨h', g', [pa], C⟩ g' (fun y => if y = x then some v else m y) [(pa, pv')] h' →
      wpAny Γ.M A (eval elt (compEnvC scope cl C env)) (fun y s₄ => CAfter [pa] (sh s₀ h' tk') g' (fun ys g mu => ∃ pv, mu = [(pa, pv)] ∧ J (i + 1) ys g pv) (ys ++ [y]) s₄) E' (sh s₀ h' tk'))
    (done : ∀ D h' tk' g' g'' ys pv', J n.toNat ys g' pv' → Le g g' → Le g' g'' → LV g'' D ys → St o g'' m [(pa, pv')] h' → Q (.ref D) (sh s₀ h' tk')) :
    CompOn Γ A E elt iter x px [] scope cl pos env Q (.ref r) (sh s₀ hh tk) := by
  refine wpAny_pyIter_range (s := sh s₀ hh tk) hr (small_one (by lia) (by lia) (by lia) (by omega)) ?_
  obtain ⟨⟨np, ep⟩, ap2, ap3, ap4⟩ := S.mus (pa, pv) (by simp)
  have hI : hh.get? hh.objs.size = none := get?_none_ge (Nat.le_refl _)
  have hpI : pa ≠ hh.objs.size := Nat.ne_of_lt (Heap.lt_size ep)
  have W := (Walks.range (prog := Challenge.rw_on0158_01.row.prog) (w := Γ.w) hA hh.objs.size 0 1 n.toNat)
  have hsz : Builtin.Range.rangeSize 0 n 1 = (n.toNat : Int) := by rw [rangeSize_nat]; simp
  refine comp_walk (W := [pa]) (mu := [(pa, pv)]) (h₁ := hh) (g := g) (s₂ := sh s₀ (hh.push _) tk) W (fun i ys g mu => ∃ pv, mu = [(pa, pv)] ∧ J i ys g pv) ?_ ?_ ?_ ?_ S.sub (fun b o e => Heap.get?_push_of_some _ e) ?_ (by simp) ⟨pv, rfl, hJ⟩ ?_ (fun i ys g mu h => let ⟨_, _, h⟩ := h; hlen i ys g _ h) (by rw [sizeLine_eq]; lia) hcell hkind hx ?_ ?_
  · show (hh.push _).get? hh.objs.size = some _
    have e1 : (0 : Int) + ((0 : Nat) : Int) * 1 = 0 := by simp
    have e2 : (n.toNat : Int) - ((0 : Nat) : Int) = (n.toNat : Int) := by simp
    rw [hsz, e1, e2]
    exact Heap.get?_push_size hh rfl
  · intro b hb
    rw [List.mem_singleton.mp hb]
    refine ⟨?_, by simpa using Ne.symm hpI⟩
    show hh.objs.size < (hh.push _).objs.size
    rw [Heap.size_push]; exact Nat.lt_succ_self _
  · intro b hb; rw [List.mem_singleton.mp hb]; exact hI
  · intro i h hst b hb
    rw [List.mem_singleton.mp hb]
    have e : h.get? hh.objs.size = some _ := hst
    rw [e]; simp
  · intro p hp; rw [List.mem_singleton.mp hp]; exact ⟨⟨np, ep⟩, by simp, ap2⟩
  · intro b hb; rw [List.mem_singleton.mp hb, ep]; simp
  · intro i v ys g' mu' h' tk' C m' E' hi hv hj hle S'
    obtain ⟨pv', rfl, hj⟩ := hj
    exact tests_nil (ite_pos rfl (turn i v ys g' pv' h' tk' C m' E' hi hj hle S'))
  · intro D h' tk' g' mu' ys hj G hD hD1 hlD hm
    obtain ⟨pv', rfl, hj⟩ := hj
    have S' := S.after1 (pre := []) G (hm (pa, pv') (List.mem_singleton.mpr rfl)).1
    obtain ⟨oL, es, eps, eL, _⟩ := id S.ns
    obtain ⟨g'', a, b, c⟩ := S'.adopt (h₁ := hh) hlD hD hD1 (by rw [eL]; simp) (fun p hp => by have e := List.mem_singleton.mp hp; subst e; show hh.get? pa ≠ none; rw [ep]; simp) (S.gr.gone hD1)
    exact done D h' tk' g' g'' ys pv' hj G.le a b c
end

def NB : Nat → Nat
  | 0 => 3
  | d + 1 => 3 + 3 * NB d
theorem okText_of {x : Str} (h : (decide (x.length ≤ 20) && x.cps.toList.all (· != 10) && (match x.cps.toList with | c :: _ => c != 32 | [] => false)) = true) : okText x := by
  simp only [Bool.and_eq_true, decide_eq_true_eq, List.all_eq_true, bne_iff_ne, ne_eq] at h
  refine ⟨h.1.1, fun c hc => h.1.2 c hc, ?_⟩
  cases e : x.cps.toList with
  | nil => rw [e] at h; simp at h
  | cons c r => rw [e] at h; exact ⟨c, r, rfl, by simpa using h.2⟩
theorem okTail_of {x : Str} (h : (decide (x.length ≤ 20) && x.cps.toList.all (· != 10)) = true) : okTail x := by
  simp only [Bool.and_eq_true, decide_eq_true_eq, List.all_eq_true, bne_iff_ne, ne_eq] at h
  exact ⟨h.1, fun c hc => h.2 c hc⟩
theorem okText.tail {x : Str} (h : okText x) : okTail x := ⟨h.1, h.2.1⟩
theorem pick3 {g : View} {l : Addr} {k : Int} {t1 t2 t3 : Tok} (hl : LV g l [Value.str (Str.ofString "a") t1, .str (Str.ofString "'+'") t2, .str (Str.ofString "NUMBER") t3]) (h0 : 0 ≤ k) (h1 : k < 3) : ∃ x t, [Value.str (Str.ofString "a") t1, .str (Str.ofString "'+'") t2, .str (Str.ofString "NUMBER") t3][k.toNat]? = some (.str x t) ∧ okText x := by
  have : k = 0 ∨ k = 1 ∨ k = 2 := by lia
  rcases this with rfl | rfl | rfl
  · exact ⟨_, _, rfl, okText_of (by decide +kernel)⟩
  · exact ⟨_, _, rfl, okText_of (by decide +kernel)⟩
  · exact ⟨_, _, rfl, okText_of (by decide +kernel)⟩
theorem pick2 {g : View} {l : Addr} {k : Int} {t1 t2 : Tok} (hl : LV g l [Value.str (Str.ofString "s") t1, .str (Str.ofString "t") t2]) (h0 : 0 ≤ k) (h1 : k < 2) : ∃ x t, [Value.str (Str.ofString "s") t1, .str (Str.ofString "t") t2][k.toNat]? = some (.str x t) ∧ okText x := by
  have : k = 0 ∨ k = 1 := by lia
  rcases this with rfl | rfl
  · exact ⟨_, _, rfl, okText_of (by decide +kernel)⟩
  · exact ⟨_, _, rfl, okText_of (by decide +kernel)⟩
theorem pick6 {g : View} {l : Addr} {k : Int} {kd : Str} {t0 t1 t2 t3 t4 t5 : Tok} (hk : okText kd) (hl : LV g l [Value.str kd t0, .str (Str.ofString "") t1, .str (Str.ofString "12") t2, .str (Str.ofString " x") t3, .str (Str.ofString "y ") t4, .str (Str.ofString "b c") t5]) (h0 : 0 ≤ k) (h1 : k < 6) : ∃ x t, [Value.str kd t0, .str (Str.ofString "") t1, .str (Str.ofString "12") t2, .str (Str.ofString " x") t3, .str (Str.ofString "y ") t4, .str (Str.ofString "b c") t5][k.toNat]? = some (.str x t) ∧ okTail x := by
  have : k = 0 ∨ k = 1 ∨ k = 2 ∨ k = 3 ∨ k = 4 ∨ k = 5 := by lia
  rcases this with rfl | rfl | rfl | rfl | rfl | rfl
  · exact ⟨_, _, rfl, hk.tail⟩
  all_goals exact ⟨_, _, rfl, okTail_of (by decide +kernel)⟩
def Fo.ofList : List Tr → Fo
  | [] => .nil
  | t :: r => .cons t (Fo.ofList r)
theorem Fo.list_of : ∀ l : List Tr, (Fo.ofList l).list = l
  | [] => rfl
  | t :: r => by simp [Fo.ofList, Fo.list, Fo.list_of r]
theorem Fo.wide_of : ∀ {l : List Tr}, (∀ t ∈ l, t.wide) → (Fo.ofList l).wide
  | [], _ => by simp [Fo.ofList, Fo.wide]
  | t :: r, h => by simp only [Fo.ofList, Fo.wide]; exact ⟨h t (by simp), Fo.wide_of fun u hu => h u (by simp [hu])⟩
theorem Fo.dep_of {d : Nat} : ∀ {l : List Tr}, (∀ t ∈ l, t.dep ≤ d) → (Fo.ofList l).dep ≤ d
  | [], _ => by simp [Fo.ofList, Fo.dep]
  | t :: r, h => by
    simp only [Fo.ofList, Fo.dep]
    have a := h t (by simp)
    have b := Fo.dep_of (l := r) fun u hu => h u (by simp [hu])
    lia
theorem IsPls.of {g : View} : ∀ {l : List Tr} {vs : List Value}, All2 (IsPl g) l vs → IsPls g (Fo.ofList l) vs
  | [], _, h => by cases h; simp [Fo.ofList, IsPls]
  | t :: r, _, h => by cases h with | cons a b => simp only [Fo.ofList, IsPls]; exact ⟨_, _, rfl, a, IsPls.of b⟩

section
variable {Γ : Wd} {g : View}
def PlainStmt (Γ : Wd) (g : View) (d : Nat) : Prop :=
  ∀ {A : Around} {s₀ : Shared} {hh : Heap} {tk : Nat} {g₀ : View} {Q E : Value → Shared → Prop} {P : Nat} {pa : Addr} {vs : List Value} {dv : Int} {td : Tok}, dv = d → Le g g₀ → Rm A (d + 2) → Sub g₀ hh →
    hh.PlainList pa vs.toArray → g₀ pa = none → PenV g₀ P vs → P + NB d < 2 ^ 30 →
    (∀ t r vs' h' tk' g', t.wide → t.dep ≤ d → Grow [pa] hh g₀ h' g' → h'.PlainList pa vs'.toArray → PenV g' (P + NB d) vs' → IsPl g' t r → Q r (sh s₀ h' tk')) →
    wpAny Γ.M A (call (.ref 189) [.ref pa, .int dv td]) Q E (sh s₀ hh tk)
def PlJ (P d' i : Nat) (ys : List Value) (g4 : View) (pv : List Value) : Prop := ∃ ts, All2 (IsPl g4) ts ys ∧ ts.length = i ∧ (∀ t ∈ ts, t.wide ∧ t.dep ≤ d') ∧ PenV g4 (P + 3 + i * NB d') pv
theorem NB_ge (d : Nat) : 3 ≤ NB d := by cases d <;> simp [NB]
theorem plain_step (O : Γ.On g) (d : Nat) (ih : ∀ d', d = d' + 1 → PlainStmt Γ g d') : PlainStmt Γ g d := by
  intro A s₀ hh tk gb Q E P pa vs dv td hdv hle r hs hpl hg hv hP ret
  have O₀ := O.mono hle
  have hNB := NB_ge d
  refine enterC2 (mu := [(pa, vs)]) (W := [pa]) (binds := [(Str.ofString "pen", .ref pa), (Str.ofString "deep", .int dv td)]) (x1 := Str.ofString "pen") (x2 := Str.ofString "deep") (v1 := .ref pa) (v2 := .int dv td) O₀ hs r (by rfl) (by rfl) (by rfl) (by simp; exact ⟨hpl, hg⟩) (by simp) (fun L => by rfl) (fun k x hx => by
    simp only [List.mem_cons, List.not_mem_nil, or_false] at hx
    rcases hx with rfl | rfl <;> exact .inr ⟨rfl, rfl⟩) (fun L => by rfl) (fun L => by rfl) (by decide) fun h₁ tk L g1 m hle1 c1 c2 S B => ?_
  have r' : ∀ env, Rm (A.deeper env) (d + 1) := fun env => r.deeper
  have O1 := O₀.mono hle1
  have hv1 : PenV g1 P vs := hv.mono hle1 (Nat.le_refl _)
  refine wpAny_execs_cons (wpAny_If (wpAny_mono (Q := fun b s' => ∃ h' tk' vs', s' = sh s₀ h' tk' ∧ St ⟨h₁, g1, [L, pa], L⟩ g1 m [(pa, vs')] h' ∧ PenV g1 (P + 1) vs' ∧ (b = false → 0 < d)) ?_ (fun b s' hb => ?_) fun _ _ e => e))
  · refine wpAny_isTrue_BoolOp ?_
    refine wpAny_allTrue_Or_cons ?_
    refine wpAny_isTrue_Compare1 ?_
    refine nmC S.sub c2 ?_
    refine cInt fun _ _ => ?_
    refine PyProof.Rows.eq_int ?_
    refine wpAny_truthy_bool ?_
    by_cases hd : dv = 0
    · refine ite_pos (by simpa using hd) ?_
      exact ⟨_, _, _, rfl, S, hv1.mono (Le.refl _) (by lia), fun h => by cases h⟩
    · refine ite_neg (by simpa using hd) ?_
      refine wpAny_allTrue_Or_cons ?_
      refine wpAny_isTrue_Compare1 ?_
      refine callG O1 S.sub n_draw (by kernel_rfl) ?_
      refine wpAny_items_cons ?_
      refine nmC S.sub c1 ?_
      refine wpAny_items_cons ?_
      refine cInt fun _ _ => ?_
      refine wpAny_items_nil ?_
      refine ⟨_, O1, S.sub, draw_ok ((r' _).le) O1 S.sub S.mu0 (S.mus (pa, _) (List.mem_singleton.mpr rfl)).2.1 hv1 (by lia) (by lia) (by lia) fun k t vs' h' tk' hk0 hk1 G hpl' hpv => ?_⟩
      replace S := S.after1 (pre := []) G hpl'
      refine cInt fun _ _ => ?_
      refine PyProof.Rows.eq_int ?_
      refine wpAny_truthy_bool ?_
      by_cases hk : k = 0
      · refine ite_pos (by simpa using hk) ?_
        exact ⟨_, _, _, rfl, S, hpv, fun h => by cases h⟩
      · refine ite_neg (by simpa using hk) ?_
        refine wpAny_allTrue_Or_nil ?_
        exact ⟨_, _, _, rfl, S, hpv, fun _ => by lia⟩
  · obtain ⟨h', tk', vs', rfl, S, hv2, hbd⟩ := hb
    cases b with
    | true =>
      refine ite_pos rfl ?_
      refine wpAny_execs_cons ?_
      refine wpAny_Assign_Name ?_
      refine Subscript_ ?_
      refine callG0 O1 S.sub n_kinds (by kernel_rfl) (kinds_ok O1 ((r' _).le) S.sub fun l t1 t2 t3 h3 tk3 g3 G3 hl3 => ?_)
      replace S := S.after G3
      have O3 := O1.mono G3.le
      refine callG O3 S.sub n_draw (by kernel_rfl) ?_
      refine wpAny_items_cons ?_
      refine nmC S.sub (c1.mono G3.le) ?_
      refine wpAny_items_cons ?_
      refine cInt fun _ _ => ?_
      refine wpAny_items_nil ?_
      refine ⟨_, O3, S.sub, draw_ok ((r' _).le) O3 S.sub S.mu0 (S.mus (pa, _) (List.mem_singleton.mpr rfl)).2.1 (hv2.mono G3.le (Nat.le_refl _)) (by lia) (by lia) (by lia) fun k t vs4 h4 tk4 hk0 hk1 G4 hpl4 hpv4 => ?_⟩
      replace S := S.after1 (pre := []) G4 hpl4
      skip
      refine Exists.elim (pick3 hl3 hk0 hk1) fun kd e1 => Exists.elim e1 fun tkd e2 => ?_
      refine getsL (hl3.plain S.sub) hk0 (by lia) e2.1 (stor S fun h5 tk5 S => ?_)
      refine wpAny_execs_cons ?_
      refine wpAny_Return_some ?_
      refine PyProof.Rows.Tuple_ ?_
      refine wpAny_items_cons ?_
      refine Mine.nm (by assumption) rfl ?_
      refine wpAny_items_cons ?_
      refine Subscript_ ?_
      refine PyProof.Rows.List_ ?_
      refine wpAny_items_cons ?_
      refine Mine.nm (by assumption) rfl ?_
      refine wpAny_items_cons ?_
      refine cStr fun _ _ => ?_
      refine wpAny_items_cons ?_
      refine cStr fun _ _ => ?_
      refine wpAny_items_cons ?_
      refine cStr fun _ _ => ?_
      refine wpAny_items_cons ?_
      refine cStr fun _ _ => ?_
      refine wpAny_items_cons ?_
      refine cStr fun _ _ => ?_
      refine wpAny_items_nil ?_
      refine newListI S (by simp) fun l6 h6 g6 hle6 hl6 S => ?_
      have O6 := O3.mono hle6
      refine callG O6 S.sub n_draw (by kernel_rfl) ?_
      refine wpAny_items_cons ?_
      refine nmC S.sub (c1.mono (G3.le.trans hle6)) ?_
      refine wpAny_items_cons ?_
      refine cInt fun _ _ => ?_
      refine wpAny_items_nil ?_
      refine ⟨_, O6, S.sub, draw_ok ((r' _).le) O6 S.sub S.mu0 (S.mus (pa, _) (List.mem_singleton.mpr rfl)).2.1 (hpv4.mono hle6 (Nat.le_refl _)) (by lia) (by lia) (by lia) fun k7 t7 vs7 h7 tk7 hk70 hk71 G7 hpl7 hpv7 => ?_⟩
      replace S := S.after1 (pre := []) G7 hpl7
      refine Exists.elim (pick6 e2.2 hl6 hk70 hk71) fun tx e3 => Exists.elim e3 fun ttx e4 => ?_
      refine getsL (hl6.plain S.sub) hk70 (by lia) e4.1 ?_
      refine wpAny_items_cons ?_
      refine wpAny_Constant_none ?_
      refine wpAny_items_nil ?_
      refine newTupI S (by simp) fun l8 h8 g8 hle8 hl8 S => ?_
      exact ret (.leaf kd tx) _ _ _ _ _ (by simp only [Tr.wide]; exact ⟨e2.2, e4.2⟩) (by simp [Tr.dep]) (B S) S.mu0 (hpv7.mono hle8 (by lia)) (by simp only [IsPl]; exact ⟨_, _, _, rfl, hl8⟩)
    | false =>
      refine ite_neg (by simp) ?_
      have hd0 : 0 < d := hbd rfl
      refine Exists.elim (Nat.exists_eq_succ_of_ne_zero (Nat.ne_of_gt hd0)) fun d' hd' => ?_
      have hd1 : d = d' + 1 := hd'
      have hNB1 : NB d = 3 + 3 * NB d' := by rw [hd1]; rfl
      refine wpAny_execs_nil ?_
      refine wpAny_execs_cons ?_
      refine wpAny_Assign_Name ?_
      refine Subscript_ ?_
      refine PyProof.Rows.List_ ?_
      refine wpAny_items_cons ?_
      refine cStr fun _ _ => ?_
      refine wpAny_items_cons ?_
      refine cStr fun _ _ => ?_
      refine wpAny_items_nil ?_
      refine newListI S (by simp) fun l3 h3 g3 hle3 hl3 S => ?_
      have O3 := O1.mono hle3
      refine callG O3 S.sub n_draw (by kernel_rfl) ?_
      refine wpAny_items_cons ?_
      refine nmC S.sub (c1.mono hle3) ?_
      refine wpAny_items_cons ?_
      refine cInt fun _ _ => ?_
      refine wpAny_items_nil ?_
      refine ⟨_, O3, S.sub, draw_ok ((r' _).le) O3 S.sub S.mu0 (S.mus (pa, _) (List.mem_singleton.mpr rfl)).2.1 (hv2.mono hle3 (Nat.le_refl _)) (by lia) (by lia) (by lia) fun k t vs4 h4 tk4 hk0 hk1 G4 hpl4 hpv4 => ?_⟩
      replace S := S.after1 (pre := []) G4 hpl4
      refine Exists.elim (pick2 hl3 hk0 hk1) fun kd e1 => Exists.elim e1 fun tkd e2 => ?_
      refine getsL (hl3.plain S.sub) hk0 (by lia) e2.1 (stor S fun h5 tk5 S => ?_)
      refine wpAny_execs_cons ?_
      refine wpAny_Return_some ?_
      refine PyProof.Rows.Tuple_ ?_
      refine wpAny_items_cons ?_
      refine Mine.nm (by assumption) rfl ?_
      refine wpAny_items_cons ?_
      refine wpAny_Constant_none ?_
      refine wpAny_items_cons ?_
      refine comp_start (cl := [(Str.ofString "pen", L + 1), (Str.ofString "deep", L + 1 + 1)]) (by rfl) (by rfl) (by decide) ?_
      refine callTy O3 S.sub b_range bb_range (by decide) ?_
      refine wpAny_items_cons ?_
      refine callG O3 S.sub n_draw (by kernel_rfl) ?_
      refine wpAny_items_cons ?_
      refine nmC S.sub (c1.mono hle3) ?_
      refine wpAny_items_cons ?_
      refine cInt fun _ _ => ?_
      refine wpAny_items_nil ?_
      refine ⟨_, O3, S.sub, draw_ok ((r' _).le) O3 S.sub S.mu0 (S.mus (pa, _) (List.mem_singleton.mpr rfl)).2.1 hpv4 (by lia) (by lia) (by lia) fun n t6 vs6 h6 tk6 hn0 hn1 G6 hpl6 hpv6 => ?_⟩
      replace S := S.after1 (pre := []) G6 hpl6
      refine wpAny_items_nil ?_
      refine rangeC S fun ra h7 tk7 ta tb tc S hra => ?_
      refine comp_range1 S (by simp) (r' _).1 hra hn0 (by lia) (PlJ P d') ⟨[], .nil, rfl, by simp, hpv6.mono (Le.refl _) (by lia)⟩ (fun i ys g4 pv ⟨ts, h1, h2, _⟩ => by have := h1.length; lia) (by decide) (by rfl) (by rfl) ?_ ?_
      · intro i v ys g4 pv' h8 tk8 C m' E' hi hj hle4 S'
        refine Exists.elim hj fun ts hj => ?_
        have O4 := O3.mono hle4
        have hi3 : i + 1 ≤ 3 := by lia
        have hmul : (i + 1) * NB d' = i * NB d' + NB d' := Nat.succ_mul i _
        have hmul3 : (i + 1) * NB d' ≤ 3 * NB d' := Nat.mul_le_mul_right _ hi3
        refine callG O4 S'.sub n_plain (by kernel_rfl) ?_
        refine wpAny_items_cons ?_
        refine nmC S'.sub (c1.mono (hle3.trans hle4)) ?_
        refine wpAny_items_cons ?_
        refine wpAny_BinOp ?_
        refine nmC S'.sub (c2.mono (hle3.trans hle4)) ?_
        refine cInt fun _ _ => ?_
        refine subI fun _ _ => ?_
        refine wpAny_items_nil ?_
        refine ⟨_, O4, S'.sub, ih d' hd1 (P := P + 3 + i * NB d') (by lia) (hle.trans (hle1.trans (hle3.trans hle4))) ((r' _).le (by lia)) S'.sub S'.mu0 (S'.mus (pa, _) (List.mem_singleton.mpr rfl)).2.1 hj.2.2.2 (by lia) fun t r vs9 h9 tk9 g9 hw9 hd9 G9 hpl9 hpv9 hpp9 => ?_⟩
        refine CAfter.of1 (J := PlJ P d') (S'.after1 (pre := []) G9 hpl9) ⟨ts ++ [t], (hj.1.mono fun t v h => IsPl.mono G9.le t h).snoc hpp9, by rw [List.length_append, hj.2.1]; rfl, fun u hu => ?_, hpv9.mono (Le.refl _) (by lia)⟩
        exact (List.mem_append.mp hu).elim (fun h => hj.2.2.1 u h) fun h => (List.mem_singleton.mp h) ▸ ⟨hw9, hd9⟩
      · intro D h9 tk9 g9 g10 ys pv9 hj hle4 hle5 hD S
        refine Exists.elim hj fun ts hj => ?_
        have hn3 : n.toNat ≤ 3 := by lia
        have hmul3 : n.toNat * NB d' ≤ 3 * NB d' := Nat.mul_le_mul_right _ hn3
        have hle35 := hle3.trans (hle4.trans hle5)
        refine wpAny_items_nil ?_
        refine newTupI S (by simp) fun l8 h8 g8 hle8 hl8 S => ?_
        refine ret (.node kd (Fo.ofList ts)) _ _ _ _ _ ?_ ?_ (B S) S.mu0 (hj.2.2.2.mono (hle5.trans hle8) (by lia)) ?_
        · simp only [Tr.wide]; exact ⟨e2.2, by rw [Fo.list_of, hj.2.1]; omega, Fo.wide_of fun t ht => (hj.2.2.1 t ht).1⟩
        · have := Fo.dep_of fun t ht => (hj.2.2.1 t ht).2
          simp only [Tr.dep]; lia
        · simp only [IsPl]; exact ⟨_, _, _, _, rfl, hl8, hD.mono hle8, IsPls.of (hj.1.mono fun t v h => IsPl.mono (hle5.trans hle8) t h)⟩
theorem plain_ok (O : Γ.On g) : ∀ d, PlainStmt Γ g d
  | 0 => plain_step O 0 fun d' h => by lia
  | d + 1 => plain_step O (d + 1) fun d' h => (Nat.succ.inj h) ▸ plain_ok O d
end

abbrev Nm := Str → Option Value
def FAfter (s₀ : Shared) (o : Og) (J : View → Nm → Mus → Prop) (s : Shared) : Prop := ∃ h tk g m mu, s = sh s₀ h tk ∧ St o g m mu h ∧ J g m mu
theorem FAfter.of {s₀ : Shared} {o : Og} {J : View → Nm → Mus → Prop} {h tk g m mu} (S : St o g m mu h) (j : J g m mu) : FAfter s₀ o J (sh s₀ h tk) := ⟨h, tk, g, m, mu, rfl, S, j⟩
def Off (o : Og) (g : View) (mu : Mus) (I : Addr) : Prop := g I = none ∧ o.h.get? I = none ∧ I ≠ o.L ∧ I ∉ mu.map (·.1)
section
variable {Γ : Wd} {A : Around} {E : Value → Shared → Prop} {s₀ : Shared} {hh : Heap} {tk : Nat} {env : Env} {o : Og} {g g' : View} {m : Nm} {mu : Mus} {x : Str} {v : Value} {pos : Pos}
abbrev Og.at (o : Og) (h : Heap) (g : View) (mu : Mus) : Og := ⟨h, g, o.L :: mu.map (·.1), o.L⟩
theorem St.restart (S : St o g m mu hh) : St (o.at hh g mu) g m mu hh :=
  ⟨S.ns, Grow.refl S.sub, S.hid, fun p hp => let ⟨a, b, c, _⟩ := S.mus p hp; ⟨a, b, c, .inr (List.mem_cons_of_mem _ (List.mem_map_of_mem hp))⟩, S.nd⟩
theorem St.rejoin (S : St o g m mu hh) (hW : o.L ∈ o.W) {g' m' mu' h'} (S' : St (o.at hh g mu) g' m' mu' h') : St o g' m' mu' h' := by
  have hw : ∀ b ∈ o.L :: mu.map (·.1), b ∈ o.W ∨ o.h.get? b = none := fun b hb => by
    rcases List.mem_cons.mp hb with e | hb
    · exact .inl (e ▸ hW)
    · obtain ⟨p, hp, e⟩ := List.mem_map.mp hb
      exact e ▸ (S.mus p hp).2.2.2.symm
  refine ⟨S'.ns, S.gr.trans S'.gr hw, S'.hid, fun p hp => ?_, S'.nd⟩
  obtain ⟨a, b, c, d⟩ := S'.mus p hp
  refine ⟨a, b, c, ?_⟩
  rcases d with d | d
  · exact .inl (S.gr.gone d)
  · exact (hw _ d).symm
theorem St.off {wr : List Addr} {h' : Heap} (S : St o g m mu hh) (hw : ∀ b ∈ wr, Off o g mu b) (hk : ∀ b ob, b ∉ wr → hh.get? b = some ob → h'.get? b = some ob) : St o g m mu h' := by
  have hL : o.L ∉ wr := fun h => (hw _ h).2.2.1 rfl
  refine ⟨S.ns.at' fun ob e => hk _ ob hL e, ⟨S.gr.le, S.gr.fr, fun b ob e => hk _ _ (fun h => by rw [(hw _ h).1] at e; cases e) (S.sub b ob e), fun b ob e hb => hk _ _ (fun h => by rw [(hw _ h).2.1] at e; cases e) (S.gr.old b ob e hb), fun b hb e => ?_⟩, S.hid, fun p hp => ?_, S.nd⟩
  · have e1 := S.gr.live b hb e
    cases e2 : hh.get? b with
    | none => exact absurd e2 e1
    | some ob => rw [hk b ob (fun h => e (hw _ h).2.1) e2]; simp
  · obtain ⟨a1, a2⟩ := S.mus p hp
    exact ⟨a1.at fun ob e => hk _ _ (fun h => (hw _ h).2.2.2 (List.mem_map_of_mem hp)) e, a2⟩

/-- a for loop over any iterator -/
theorem for_walk {px : Pos} {body : List Stmt} {I : Addr} {fp wr : List Addr} {n : Nat} {P : Nat → Value → Prop} {Stt : Nat → Heap → Prop} {Q : Flow → Shared → Prop}
    (S : St o g m mu hh) (hW : o.L ∈ o.W) (Wk : Walks Challenge.rw_on0158_01.row.prog Γ.w A I fp wr n P Stt) (J : Nat → View → Nm → Mus → Prop) (hJ : J 0 g m mu)
    (hst : Stt 0 hh) (hfl : ∀ i h, Stt i h → ∀ b ∈ fp, h.get? b ≠ none) (hwr : ∀ b ∈ wr, g b = none ∧ o.h.get? b = none) (hfm : ∀ b ∈ fp, b ≠ o.L ∧ b ∉ mu.map (·.1))
    (hL : env.locals = o.L) (hl : env.kindOf x = some .local) (hp : (env.scope.kind == .class || (env.scope.kind == .module && env.locals != env.globals)) = false)
    (turn : ∀ (i : Nat) (v : Value) (g' : View) (m' : Nm) (mu' : Mus) (h' : Heap) (tk' : Nat) (E' : Value → Shared → Prop), i < n → P i v → J i g' m' mu' → Le g g' → St (o.at h' g' mu') g' (fun y => if y = x then some v else m' y) mu' h' →
      wpAny Γ.M A (execs body env) (fun f s₄ => f = .next ∧ FAfter s₀ (o.at h' g' mu') (J (i + 1)) s₄) E' (sh s₀ h' tk'))
    (done : ∀ h' tk' g' m' mu', J n g' m' mu' → Le g g' → St o g' m' mu' h' → Q .next (sh s₀ h' tk')) :
    codeAny Γ.M A (.forLoop (.Name x px) (.ref I) body [] env) (fun r s' => match r with | .ok f => Q f s' | .error e => cameBackBy Γ.M A env E e s') (sh s₀ hh tk) := by
  refine codeAny_forLoop (fun k s' => ∃ h' tk' g' m' mu' i, s' = sh s₀ h' tk' ∧ k = n + 1 - i ∧ i ≤ n ∧ Stt i h' ∧ Le g g' ∧ St o g' m' mu' h' ∧ (∀ b ∈ wr, Off o g' mu' b) ∧ (∀ b ∈ fp, b ≠ o.L ∧ b ∉ mu'.map (·.1)) ∧ J i g' m' mu') ?_ (n + 1)
    ⟨hh, tk, g, m, mu, 0, rfl, rfl, Nat.zero_le _, hst, Le.refl _, S, fun b hb => ⟨(hwr b hb).1, (hwr b hb).2, hfm b (Wk.sub _ hb)⟩, hfm, hJ⟩
  rintro k s' ⟨h', tk', g', m', mu', i, rfl, rfl, hi, hst', hle, S', hof, hfm', hJ'⟩
  by_cases hlt : i < n
  · refine Wk.item i _ _ _ hlt hst' fun v h₁ tk₁ hPv hst₁ hk₁ => ?_
    have S₁ : St o g' m' mu' h₁ := S'.off hof hk₁
    refine wpAny_assign_Name (wpAny_storeName_local (s := sh s₀ h₁ tk₁) hl (hL ▸ S₁.ns) (fun h₂ hn₂ hs₂ => ?_) hp)
    have S₂ : St o g' (fun y => if y = x then some v else m' y) mu' h₂ := S₁.store (hL ▸ hn₂) (hL ▸ hs₂) hW
    have hst₂ : Stt (i + 1) h₂ := Wk.frame _ _ _ hst₁ fun b hb ob e => (hL ▸ hs₂ : Heap.SameBut o.L h₁ h₂).extBut b ob (hfm' b hb).1 e
    refine wpAny_mono (turn i v g' m' mu' h₂ _ _ hlt hPv hJ' hle S₂.restart) (fun f s₄ h₄ => ?_) fun _ _ e => e
    obtain ⟨rfl, h₄, tk₄, g₄, m₄, mu₄, rfl, S₄, hJ₄⟩ := h₄
    have live : ∀ b ∈ fp, h₂.get? b ≠ none := hfl _ _ hst₂
    have nmu : ∀ b ∈ fp, b ∉ o.L :: mu'.map (·.1) := fun b hb h => by
      rcases List.mem_cons.mp h with e | e
      · exact (hfm' b hb).1 e
      · exact (hfm' b hb).2 e
    have hfm₄ : ∀ b ∈ fp, b ≠ o.L ∧ b ∉ mu₄.map (·.1) := fun b hb => ⟨(hfm' b hb).1, fun h => by
      obtain ⟨p, hp, e⟩ := List.mem_map.mp h
      rcases (S₄.mus p hp).2.2.2 with d | d
      · exact live b hb (e ▸ d)
      · exact nmu b hb (e ▸ d)⟩
    refine ⟨n + 1 - (i + 1), by lia, h₄, tk₄, g₄, m₄, mu₄, i + 1, rfl, rfl, hlt, Wk.frame _ _ _ hst₂ fun b hb ob e => S₄.gr.old b ob e (nmu b hb), hle.trans S₄.gr.le, S₂.rejoin hW S₄, fun b hb => ⟨?_, (hof b hb).2.1, hfm₄ b (Wk.sub _ hb)⟩, hfm₄, hJ₄⟩
    cases e : h₂.get? b with
    | none => exact absurd e (live b (Wk.sub _ hb))
    | some ob => exact S₄.gr.hidden e (hof b hb).1
  · have hin : i = n := by lia
    subst hin
    exact Wk.done _ _ _ hst' fun h₁ tk₁ hk₁ => wpAny_execs_nil (done h₁ tk₁ g' m' mu' hJ' hle (S'.off hof hk₁))

def ForOn (Γ : Wd) (A : Around) (E : Value → Shared → Prop) (x : Str) (px : Pos) (body : List Stmt) (env : Env) (Q : Flow → Shared → Prop) (v : Value) (s₁ : Shared) : Prop :=
  wpAny Γ.M A (pyIter v) (fun it s₂ => codeAny Γ.M A (.forLoop (.Name x px) it body [] env) (fun r s' => match r with | .ok f => Q f s' | .error e => cameBackBy Γ.M A env E e s') s₂) E s₁
theorem for_start {px : Pos} {iter : Expr} {body : List Stmt} {s : Shared} {Q : Flow → Shared → Prop} (h : wpAny Γ.M A (eval iter env) (ForOn Γ A E x px body env Q) E s) (hs : ∀ x, foldedSetIterable iter env x = pure x := by intro _; rfl) :
    wpAny Γ.M A (exec (.For (.Name x px) iter body [] pos) env) Q E s := wpAny_For h hs
theorem for_list {px : Pos} {body : List Stmt} {l : Addr} {vs : List Value} {Q : Flow → Shared → Prop}
    (S : St o g m mu hh) (hA : A.handled = none) (hl : LV g l vs) (J : Nat → View → Nm → Mus → Prop) (hJ : J 0 g m mu)
    (turn : ∀ (i : Nat) (v : Value) (g' : View) (m' : Nm) (mu' : Mus) (h' : Heap) (tk' : Nat) (E' : Value → Shared → Prop), vs[i]? = some v → J i g' m' mu' → Le g g' → St (o.at h' g' mu') g' (fun y => if y = x then some v else m' y) mu' h' →
      wpAny Γ.M A (execs body env) (fun f s₄ => f = .next ∧ FAfter s₀ (o.at h' g' mu') (J (i + 1)) s₄) E' (sh s₀ h' tk'))
    (done : ∀ h' tk' g' m' mu', J vs.length g' m' mu' → Le g g' → St o g' m' mu' h' → Q .next (sh s₀ h' tk'))
    (hW : o.L ∈ o.W := by exact List.mem_cons_self) (hL : env.locals = o.L := by rfl) (hkl : env.kindOf x = some .local := by rfl) (hp : (env.scope.kind == .class || (env.scope.kind == .module && env.locals != env.globals)) = false := by rfl) :
    ForOn Γ A E x px body env Q (.ref l) (sh s₀ hh tk) := by
  refine wpAny_pyIter_list (s := sh s₀ hh tk) (hl.isList S.sub) ?_
  obtain ⟨nl, el⟩ := hl.plain S.sub
  have hne : l ≠ hh.objs.size := Nat.ne_of_lt (Heap.lt_size el)
  have hI : hh.get? hh.objs.size = none := get?_none_ge (Nat.le_refl _)
  have W := Walks.list (prog := Challenge.rw_on0158_01.row.prog) (w := Γ.w) hA hh.objs.size l hne vs.toArray
  have nmu : ∀ b, hh.get? b = none → b ∉ mu.map (·.1) := fun b e h => by
    obtain ⟨p, hp, e1⟩ := List.mem_map.mp h
    exact PlainList.live (S.mus p hp).1 (e1 ▸ e)
  refine for_walk (S.junk _) hW W J hJ ⟨⟨_, Heap.get?_push_size _ rfl, rfl, rfl⟩, ⟨_, Heap.get?_push_of_some _ el, rfl, _, rfl⟩⟩ ?_ ?_ ?_ hL hkl hp ?_ ?_
  · rintro i h ⟨h1, h2⟩ b hb
    rcases List.mem_cons.mp hb with rfl | hb
    · exact listIter_live h1
    · rw [List.mem_singleton.mp hb]; obtain ⟨ob, e, _⟩ := h2; rw [e]; simp
  · intro b hb
    rw [List.mem_singleton.mp hb]
    exact ⟨S.sub.fresh (Nat.le_refl _), S.gr.gone hI⟩
  · intro b hb
    rcases List.mem_cons.mp hb with rfl | hb
    · exact ⟨Nat.ne_of_gt S.lt, nmu _ hI⟩
    · rw [List.mem_singleton.mp hb]
      obtain ⟨n, e⟩ := hl
      refine ⟨fun h => (by rw [h, S.hid] at e; cases e), fun h => ?_⟩
      obtain ⟨p, hp, e1⟩ := List.mem_map.mp h
      have := (S.mus p hp).2.1
      rw [e1, e] at this; cases this
  · intro i v g' m' mu' h' tk' E' hi hv hj hle S'
    exact turn i v g' m' mu' h' tk' E' (by simpa using hv) hj hle S'
  · intro h' tk' g' m' mu' hj hle S'
    exact done h' tk' g' m' mu' (by simpa using hj) hle S'
theorem revC {l : Addr} {vs : List Value} {Q : Value → Shared → Prop} (S : St o g m mu hh) (hl : LV g l vs)
    (h : ∀ I h', St o g m mu h' → Off o g mu I → l ≠ I → h'.IsRevIter I l ((vs.length : Int) - 1) → Q (.ref I) (sh s₀ h' tk)) : wpAny Γ.M A (call (.type "reversed") [.ref l]) Q E (sh s₀ hh tk) := by
  refine call_reversed_list (s := sh s₀ hh tk) (hl.isList S.sub) ?_
  obtain ⟨nl, el⟩ := hl.plain S.sub
  have hI : hh.get? hh.objs.size = none := get?_none_ge (Nat.le_refl _)
  refine h _ _ (S.junk _) ⟨S.sub.fresh (Nat.le_refl _), S.gr.gone hI, Nat.ne_of_gt S.lt, fun hm => ?_⟩ (Nat.ne_of_lt (Heap.lt_size el)) ?_
  · obtain ⟨p, hp, e1⟩ := List.mem_map.mp hm
    exact PlainList.live (S.mus p hp).1 (e1 ▸ hI)
  · refine ⟨_, Heap.get?_push_size _ rfl, rfl, ?_⟩
    have e : ((vs.toArray.size : Nat) : Int) - 1 = (vs.length : Int) - 1 := by simp
    rw [← e]; rfl
theorem for_rev {px : Pos} {body : List Stmt} {I l : Addr} {vs : List Value} {Q : Flow → Shared → Prop}
    (S : St o g m mu hh) (hA : A.handled = none) (hl : LV g l vs) (hI : Off o g mu I) (hne : l ≠ I) (hit : hh.IsRevIter I l ((vs.length : Int) - 1)) (J : Nat → View → Nm → Mus → Prop) (hJ : J 0 g m mu)
    (turn : ∀ (i : Nat) (v : Value) (g' : View) (m' : Nm) (mu' : Mus) (h' : Heap) (tk' : Nat) (E' : Value → Shared → Prop), i < vs.length → vs.reverse[i]? = some v → J i g' m' mu' → Le g g' → St (o.at h' g' mu') g' (fun y => if y = x then some v else m' y) mu' h' →
      wpAny Γ.M A (execs body env) (fun f s₄ => f = .next ∧ FAfter s₀ (o.at h' g' mu') (J (i + 1)) s₄) E' (sh s₀ h' tk'))
    (done : ∀ h' tk' g' m' mu', J vs.length g' m' mu' → Le g g' → St o g' m' mu' h' → Q .next (sh s₀ h' tk'))
    (hW : o.L ∈ o.W := by exact List.mem_cons_self) (hL : env.locals = o.L := by rfl) (hkl : env.kindOf x = some .local := by rfl) (hp : (env.scope.kind == .class || (env.scope.kind == .module && env.locals != env.globals)) = false := by rfl) :
    ForOn Γ A E x px body env Q (.ref I) (sh s₀ hh tk) := by
  have hsz : vs.toArray.size = vs.length := by simp
  refine wpAny_pyIter_revIter (s := sh s₀ hh tk) hit ?_
  have W := Walks.listRev (prog := Challenge.rw_on0158_01.row.prog) (w := Γ.w) hA I l hne vs.toArray
  refine for_walk S hW W J hJ ⟨Nat.zero_le _, ?_, hl.isList S.sub⟩ ?_ ?_ ?_ hL hkl hp ?_ ?_
  · have e : ((vs.toArray.size : Nat) : Int) - 1 - ((0 : Nat) : Int) = (vs.length : Int) - 1 := by simp
    rw [e]; exact hit
  · rintro i h ⟨_, h1, h2⟩ b hb
    rcases List.mem_cons.mp hb with rfl | hb
    · obtain ⟨ob, e, _⟩ := h1; rw [e]; simp
    · rw [List.mem_singleton.mp hb]; obtain ⟨ob, e, _⟩ := h2; rw [e]; simp
  · intro b hb
    rw [List.mem_singleton.mp hb]
    exact ⟨hI.1, hI.2.1⟩
  · intro b hb
    rcases List.mem_cons.mp hb with rfl | hb
    · exact hI.2.2
    · rw [List.mem_singleton.mp hb]
      obtain ⟨n, e⟩ := hl
      refine ⟨fun h => (by rw [h, S.hid] at e; cases e), fun h => ?_⟩
      obtain ⟨p, hp, e1⟩ := List.mem_map.mp h
      have := (S.mus p hp).2.1
      rw [e1, e] at this; cases this
  · intro i v g' m' mu' h' tk' E' hi hv hj hle S'
    rw [hsz] at hi
    refine turn i v g' m' mu' h' tk' E' hi ?_ hj hle S'
    rw [List.getElem?_reverse hi]
    simpa using hv
  · intro h' tk' g' m' mu' hj hle S'
    exact done h' tk' g' m' mu' (by simpa using hj) hle S'

/-- a while loop with a measure -/
theorem while_walk {test : Expr} {body : List Stmt} {Q : Flow → Shared → Prop} (S : St o g m mu hh) (J : Nat → View → Nm → Mus → Prop) (Fin : View → Nm → Mus → Prop) (k : Nat) (hJ : J k g m mu)
    (turn : ∀ (k : Nat) (g' : View) (m' : Nm) (mu' : Mus) (h' : Heap) (tk' : Nat) (E' : Value → Shared → Prop), J k g' m' mu' → Le g g' → St (o.at h' g' mu') g' m' mu' h' →
      wpAny Γ.M A (isTrue test env (eval test env)) (fun b s₂ => if b = true then wpAny Γ.M A (execs body env) (fun f s₄ => f = .next ∧ ∃ k', k' < k ∧ FAfter s₀ (o.at h' g' mu') (J k') s₄) E' s₂ else FAfter s₀ (o.at h' g' mu') Fin s₂) E' (sh s₀ h' tk'))
    (done : ∀ h' tk' g' m' mu', Fin g' m' mu' → Le g g' → St o g' m' mu' h' → Q .next (sh s₀ h' tk'))
    (hW : o.L ∈ o.W := by exact List.mem_cons_self) :
    wpAny Γ.M A (exec (.While test body [] pos) env) Q E (sh s₀ hh tk) := by
  refine wpAny_While (codeAny_whileLoop (fun k s' => ∃ h' tk' g' m' mu', s' = sh s₀ h' tk' ∧ Le g g' ∧ St o g' m' mu' h' ∧ J k g' m' mu') ?_ k ⟨hh, tk, g, m, mu, rfl, Le.refl _, S, hJ⟩)
  rintro k s' ⟨h', tk', g', m', mu', rfl, hle, S', hJ'⟩
  refine wpAny_mono (turn k g' m' mu' h' tk' _ hJ' hle S'.restart) (fun b s₂ h₂ => ?_) fun _ _ e => e
  cases b with
  | true =>
    simp only [if_true] at h₂ ⊢
    refine wpAny_mono h₂ (fun f s₄ h₄ => ?_) fun _ _ e => e
    obtain ⟨rfl, k', hk, h₄, tk₄, g₄, m₄, mu₄, rfl, S₄, hJ₄⟩ := h₄
    exact ⟨k', hk, h₄, tk₄, g₄, m₄, mu₄, rfl, hle.trans S₄.gr.le, S'.rejoin hW S₄, hJ₄⟩
  | false =>
    simp only [Bool.false_eq_true, if_false] at h₂ ⊢
    obtain ⟨h₄, tk₄, g₄, m₄, mu₄, rfl, S₄, hJ₄⟩ := h₂
    exact wpAny_execs_nil (done _ _ _ _ _ hJ₄ (hle.trans S₄.gr.le) (S'.rejoin hW S₄))

/-- list.append, list.pop -/
theorem mapSeq_plain {h : Heap} {l : Addr} {xs : Array Value} {n : Nat} (f : Array Value → Array Value) {ys : List Value} (e : h.get? l = some { cls := .type "list", data := .seq xs n }) (hf : f xs = ys.toArray) : (h.update l (Obj.mapSeq f)).PlainList l ys.toArray := by
  unfold Heap.PlainList
  rw [Heap.get?_update_self _ e (by rfl)]
  simp only [Obj.mapSeq, hf]
  exact ⟨_, rfl⟩
theorem appendS {s : Shared} {ob e : Expr} {apos cpos : Pos} {Q : Flow → Shared → Prop}
    (h : wpAny Γ.M A (eval ob env) (fun ov s₁ => ∃ l ws, ov = .ref l ∧ s₁.heap.PlainList l ws ∧ wpAny Γ.M A (eval e env) (fun v s₂ => ∃ vs, s₂.heap.PlainList l vs.toArray ∧ vs.length ≤ 1000000 ∧
      ∀ h', h'.PlainList l (vs ++ [v]).toArray → Heap.SameBut l s₂.heap h' → Q .next { s₂ with heap := h' }) E s₁) E s)
    (hbase : attributeBase ob (Str.ofString "append") env (eval ob env) = eval ob env := by rfl)
    (hfew : ((backTo cpos (starEach [e] env)).all (fun x => !x.1) && (backToKw cpos (keywordEach [] env)).all (fun x => x.1.isSome)
      && decide (([e] : List Expr).length + ([] : List Keyword).length + (if ([] : List Keyword).isEmpty then 0 else 1) < 30)) = true := by rfl)
    (hline : (apos.endLine == cpos.line) = true := by rfl) (he : starEach [e] env = [(false, eval e env)] := by rfl)
    (hi : interactive env = false := by rfl) (hs : swapsWith (.Call (.Attribute ob (Str.ofString "append") apos) [e] [] cpos) none pos.line env = pure false := by rfl) :
    wpAny Γ.M A (exec (.Expr (.Call (.Attribute ob (Str.ofString "append") apos) [e] [] cpos) pos) env) Q E s := by
  refine wpAny_Expr_any (wpAny_Call_method hbase hfew hline F.plainAttrs_list F.slot_list_append F.type_list_append (wpAny_mono h (fun ov s₁ h₁ => ?_) fun _ _ e => e)) hi hs
  obtain ⟨l, ws, rfl, hl, h₁⟩ := h₁
  refine ⟨hl.isList.typeIs, fun a ea => ?_, ?_⟩
  · cases ea; obtain ⟨n, e1⟩ := hl; exact ⟨_, e1, rfl⟩
  · rw [he]
    show wpAny Γ.M A (callWith cpos (.builtin "list.append") [.ref l] [(false, eval e env)] []) _ E s₁
    refine PySem.P.append_list (wpAny_mono h₁ (fun v s₂ h₂ => ?_) fun _ _ e => e)
    obtain ⟨vs, ⟨n, e2⟩, hz, h₂⟩ := h₂
    refine ⟨vs.toArray, n, by rw [sizeLine_eq]; simp; lia, e2, h₂ _ (mapSeq_plain _ e2 (by simp)) (Heap.SameBut.update ..)⟩
theorem popE {s : Shared} {ob : Expr} {apos cpos : Pos} {Q : Value → Shared → Prop}
    (h : wpAny Γ.M A (eval ob env) (fun ov s₁ => ∃ l vs v, ov = .ref l ∧ s₁.heap.PlainList l (vs ++ [v]).toArray ∧ vs.length ≤ 1000000 ∧ ∀ h', h'.PlainList l vs.toArray → Heap.SameBut l s₁.heap h' → Q v { s₁ with heap := h' }) E s)
    (hbase : attributeBase ob (Str.ofString "pop") env (eval ob env) = eval ob env := by rfl)
    (hline : (apos.endLine == cpos.line) = true := by rfl) :
    wpAny Γ.M A (eval (.Call (.Attribute ob (Str.ofString "pop") apos) [] [] cpos) env) Q E s := by
  refine wpAny_Call_method hbase (by rfl) hline F.plainAttrs_list F.slot_list_pop F.type_list_pop (wpAny_mono h (fun ov s₁ h₁ => ?_) fun _ _ e => e)
  obtain ⟨l, vs, v, rfl, hl, hz, h₁⟩ := h₁
  obtain ⟨n, e1⟩ := hl
  refine ⟨⟨_, e1, rfl⟩, fun a ea => by cases ea; exact ⟨_, e1, rfl⟩, ?_⟩
  refine PySem.P.pop_list e1 (y := v) (by simp) (h₁ _ (mapSeq_plain _ e1 (by simp; rw [List.eraseIdx_append_of_length_le (Nat.le_refl _)]; simp)) (Heap.SameBut.update ..)) (by rw [sizeLine_eq]; simp; lia)
end

def LI (g : View) (a : Addr) (vs : List Value) : Prop := ∃ o, g a = some o ∧ o.cls = .type "list" ∧ ∃ n, o.data = .seq vs.toArray n
theorem LI.isList {g : View} {h : Heap} {a vs} (x : LI g a vs) (s : Sub g h) : h.IsList a vs.toArray := by obtain ⟨o, e, c, n, d⟩ := x; exact ⟨o, s _ _ e, c, n, d⟩
section
variable {Γ : Wd} {A : Around} {E : Value → Shared → Prop} {s₀ : Shared} {hh : Heap} {tk : Nat} {env : Env} {o : Og} {g g' : View} {m : Nm} {mu : Mus} {x : Str} {v : Value} {pos : Pos}
theorem intC' {v : Value} {n : Int} {u : Tok} {s : Shared} {Q : Value → Shared → Prop} (e : v = .int n u) (h : Q v s) : wpAny Γ.M A (call (.type "int") [v]) Q E s := by subst e; exact call_int_int h
theorem absP {a : Int} {t : Tok} {Q : Value → Shared → Prop} (h : ∀ r t tk', 0 ≤ r → Q (.int r t) (sh s₀ hh tk')) : wpAny Γ.M A (call (.builtin "abs") [.int a t]) Q E (sh s₀ hh tk) :=
  PyProof.Rows.call_abs_int fun u tk => h _ _ _ (by split <;> lia)
theorem modV {a : Int} {v : Value} {t u : Tok} {b : Int} {Q : Value → Shared → Prop} (e : v = .int a t) (hb : 0 < b) (h : ∀ r t tk', 0 ≤ r → r < b → Q (.int r t) (sh s₀ hh tk')) : wpAny Γ.M A (binaryOp .Mod v (.int b u)) Q E (sh s₀ hh tk) := by subst e; exact modP hb h
theorem powP {a n : Int} {t u : Tok} {Q : Value → Shared → Prop} (hn : 0 ≤ n) (hn2 : n ≤ 1000000) (ha : 0 < a) (ha2 : a < 1000) (h : ∀ r t tk', 0 < r → Q (.int r t) (sh s₀ hh tk')) : wpAny Γ.M A (binaryOp .Pow (.int a t) (.int n u)) Q E (sh s₀ hh tk) :=
  PyProof.Rows.pow_int_small hn hn2 (by omega) (h _ _ _ (Int.pow_pos ha))
/-- a slice of a list: a new list -/
theorem slcI {l : Addr} {vs ys : List Value} {vl vu : Value} {lo hi : Option Int} {Q : Value → Shared → Prop} (S : St o g m mu hh) (hl : hh.IsList l vs.toArray) (pl : IsPart vl lo) (pu : IsPart vu hi) (hz : vs.length ≤ 1000000) (hp : slicePick vs.toArray lo hi none = ys.toArray)
    (h : ∀ l' h' g', Le g g' → LV g' l' ys → St o g' m mu h' → Q (.ref l') (sh s₀ h' tk)) :
    SlOn Q (.ref l) vl vu (sh s₀ hh tk) := by
  refine ⟨l, vs.toArray, lo, hi, rfl, hl, by rw [sizeLine_eq]; simp; lia, pl, pu, ?_⟩
  rw [hp]
  have S1 := S.junk { cls := .type "slice", data := .fields #[vl, vu, .none] }
  have := h _ _ _ S1.le_push ⟨0, View.set_self ..⟩ (S1.allocImm (ob := lst ys 0) rfl)
  rw [Heap.size_push] at this
  exact this
theorem slcM {l : Addr} {vs ys : List Value} {vl vu : Value} {lo hi : Option Int} {Q : Value → Shared → Prop} (S : St o g m mu hh) (hl : hh.IsList l vs.toArray) (pl : IsPart vl lo) (pu : IsPart vu hi) (hz : vs.length ≤ 1000000) (hp : slicePick vs.toArray lo hi none = ys.toArray)
    (h : ∀ l' h', St o g m ((l', ys) :: mu) h' → Q (.ref l') (sh s₀ h' tk)) :
    SlOn Q (.ref l) vl vu (sh s₀ hh tk) := by
  refine ⟨l, vs.toArray, lo, hi, rfl, hl, by rw [sizeLine_eq]; simp; lia, pl, pu, ?_⟩
  rw [hp]
  have S1 := S.junk { cls := .type "slice", data := .fields #[vl, vu, .none] }
  have := h _ _ (S1.allocMut ys)
  rw [Heap.size_push] at this
  exact this
theorem pickUp {vs : List Value} (k : Nat) : slicePick vs.toArray none (some (k : Int)) none = (vs.take k).toArray := by rw [slicePick_upto']
theorem pickFrom {vs : List Value} (k : Nat) : slicePick vs.toArray (some (k : Int)) none none = (vs.drop k).toArray := by rw [slicePick_from']
theorem St.afterNew {h h' : Heap} {a : Addr} {vs : List Value} (S : St o g m mu h) (G : Grow [] h g h' g') (hl : h'.PlainList a vs.toArray) (hg : g' a = none) (hn : h.get? a = none) : St o g' m ((a, vs) :: mu) h' := by
  have S' := S.after G
  refine ⟨S'.ns, S'.gr, S'.hid, fun p hp => ?_, List.nodup_cons.mpr ⟨fun h => ?_, S'.nd⟩⟩
  · rcases List.mem_cons.mp hp with rfl | hp
    · refine ⟨hl, hg, fun e => ?_, .inl (S.gr.gone hn)⟩
      have : a = o.L := e
      exact Heap.Ns.live S.ns (this ▸ hn)
    · exact S'.mus p hp
  · obtain ⟨p, hp, e⟩ := List.mem_map.mp h
    exact PlainList.live (S.mus p hp).1 (e ▸ hn)
theorem St.newOf {h₁ h : Heap} {a : Addr} {vs : List Value} {L : Addr} {W : List Addr} (S : St ⟨h₁, g, L :: W, L⟩ g' m ((a, vs) :: mu) h) (G : Grow W hh g h₁ g) (hW : a ∉ W) : hh.get? a = none := by
  obtain ⟨_, _, c, d⟩ := S.mus (a, vs) (by simp)
  cases e : hh.get? a with
  | none => rfl
  | some ob =>
    have e1 := G.old a ob e hW
    rcases d with d | d
    · have d' : h₁.get? a = none := d
      rw [d'] at e1; cases e1
    · rcases List.mem_cons.mp d with d | d
      · exact absurd d c
      · exact absurd d hW
theorem St.keepBut {h' : Heap} {m' : Nm} (S : St o g m mu hh) (hn : h'.Ns o.L m') (hk : ∀ b ob, b ≠ o.L → hh.get? b = some ob → h'.get? b = some ob) (hL : o.L ∈ o.W) : St o g m' mu h' := by
  refine ⟨hn, ⟨S.gr.le, S.gr.fr, fun b x e => hk b x (fun hb => ?_) (S.sub b x e), fun b x e hb => hk b x (fun e1 => hb (e1 ▸ hL)) (S.gr.old b x e hb), fun b hb e => ?_⟩, S.hid,
    fun p hp => let ⟨a1, a2, a3, a4⟩ := S.mus p hp; ⟨a1.at fun ob e => hk _ _ a3 e, a2, a3, a4⟩, S.nd⟩
  · subst hb; rw [S.hid] at e; cases e
  · have e1 := S.gr.live b hb e
    by_cases hbL : b = o.L
    · subst hbL; exact Heap.Ns.live hn
    · cases e2 : hh.get? b with
      | none => exact absurd e2 e1
      | some ob => rw [hk b ob hbL e2]; simp
def AsgOn (Γ : Wd) (A : Around) (E : Value → Shared → Prop) (elt : Expr) (x y : Str) (scope : PySem.Scope) (env : Env) (F : Value → Value → Prop) (Q : Flow → Shared → Prop) (xv : Value) (s : Shared) : Prop :=
  wpAny Γ.M A (pyIter xv) (fun it s₂ => ∃ I fp wr n P St m, it = .ref I ∧ Walks Challenge.rw_on0158_01.row.prog Γ.w A I fp wr n P St ∧ n ≤ sizeLine ∧ St 0 s₂.heap ∧ (∀ b ∈ fp, b < s₂.heap.objs.size) ∧
      env.locals ∉ wr ∧ s₂.heap.Ns env.locals m ∧ QuietOn Challenge.rw_on0158_01.row.prog Γ.w A env scope x [] elt wr P (fun _ => true) F s₂ ∧
      (∀ D h' tk ys (vs : List Value), s₂.heap.get? D = none → h'.IsList D ys → h'.PlainList D ys → vs.length = n → (∀ j v, vs[j]? = some v → P j v) → Paired F (vs.filter (fun _ => true)) ys.toList →
        h'.Ns env.locals (fun z => if z = y then some (.ref D) else m z) → (∀ b o, b ≠ env.locals → b ∉ wr → s₂.heap.get? b = some o → h'.get? b = some o) → Q .next { s₂ with heap := h', toks := tk })) E s
theorem asg_start {s : Shared} {elt iter : Expr} {x y : Str} {px py : Pos} {scope : PySem.Scope} {pos spos : Pos} {Q : Flow → Shared → Prop} (F : Value → Value → Prop)
    (hsw : swapsWith (.ListComp elt [⟨.Name x px, iter, [], 0⟩] scope pos) (some (.Name y py)) spos.line env = pure true)
    (hfree : ∀ z ∈ scope.names, z.2 ≠ .free) (hcell : ∀ z ∈ scope.names, z.2 ≠ .cell) (hkind : scope.kind = .function)
    (hnames : ∀ z ∈ scope.names, z.2 = .local → scope.names.lookup z.1 = some .local) (hx : scope.names.lookup x = some .local)
    (hy : env.kindOf y = some .local) (hp : (env.scope.kind == .class || (env.scope.kind == .module && env.locals != env.globals)) = false)
    (h : wpAny Γ.M A (eval iter env) (AsgOn Γ A E elt x y scope env F Q) E s) (hs : ∀ x, foldedSetIterable iter env x = pure x := by intro _; rfl) :
    wpAny Γ.M A (exec (.Assign [.Name y py] (.ListComp elt [⟨.Name x px, iter, [], 0⟩] scope pos) spos) env) Q E s := wpAny_Assign_ListComp_walk (fun _ => true) F hsw hfree hcell hkind hnames hx hy hp h hs
theorem comp_asg {elt : Expr} {y : Str} {scope : PySem.Scope} {Q : Flow → Shared → Prop} {l : Addr} {vs : List Value} (F : Value → Value → Prop)
    (S : St o g m mu hh) (hA : A.handled = none) (hl : LV g l vs) (hz : vs.length ≤ 1000000)
    (helt : ∀ C v s₃ m₃ E', v ∈ vs → s₃.heap.Ns C m₃ → m₃ x = some v → Sub g s₃.heap → wpAny Γ.M A (eval elt (compEnv scope C env)) (fun y s₄ => F v y ∧ Keeps s₃ s₄) E' s₃)
    (done : ∀ D ys h' tk' g', Le g g' → LV g' D ys → Paired F vs ys → St o g' (fun z => if z = y then some (.ref D) else m z) mu h' → Q .next (sh s₀ h' tk'))
    (hLe : env.locals = o.L) (hLW : o.L ∈ o.W) :
    AsgOn Γ A E elt x y scope env F Q (.ref l) (sh s₀ hh tk) := by
  refine wpAny_pyIter_list (s := sh s₀ hh tk) (hl.isList S.sub) ?_
  obtain ⟨nl, el⟩ := hl.plain S.sub
  have hne : l ≠ hh.objs.size := Nat.ne_of_lt (Heap.lt_size el)
  have hI : hh.get? hh.objs.size = none := get?_none_ge (Nat.le_refl _)
  have W := Walks.list (prog := Challenge.rw_on0158_01.row.prog) (w := Γ.w) hA hh.objs.size l hne vs.toArray
  have SJ : ∀ ob, St o g m mu (hh.push ob) := fun ob => S.junk ob
  have nmu : ∀ b, hh.get? b = none → b ∉ mu.map (·.1) := fun b e h => by
    obtain ⟨p, hp, e1⟩ := List.mem_map.mp h
    exact PlainList.live (S.mus p hp).1 (e1 ▸ e)
  refine ⟨_, _, _, _, _, _, m, rfl, W, by rw [sizeLine_eq]; simp; lia, ⟨⟨_, Heap.get?_push_size _ rfl, rfl, rfl⟩, ⟨_, Heap.get?_push_of_some _ el, rfl, _, rfl⟩⟩, ?_, ?_, hLe ▸ (SJ _).ns, ⟨?_, ?_⟩, ?_⟩
  · intro b hb
    show b < (hh.push _).objs.size
    rw [Heap.size_push]
    rcases List.mem_cons.mp hb with rfl | hb
    · exact Nat.lt_succ_self _
    · rw [List.mem_singleton.mp hb]; exact Nat.lt_succ_of_lt (Heap.lt_size el)
  · intro hb
    have := List.mem_singleton.mp hb
    rw [hLe] at this
    exact Nat.ne_of_lt S.lt this
  · intro C i v s₃ m₃ E' hv hn hm hk _
    exact wpAny_pure ⟨rfl, s₃.heap, s₃.toks, rfl, fun _ _ e => e⟩
  · intro C i v s₃ m₃ E' hv _ hn hm hk _
    refine helt C v s₃ m₃ E' (by have := Array.mem_of_getElem? hv; simpa using this) hn hm fun b ob e => hk b ob (fun h => ?_) (Heap.get?_push_of_some _ (S.sub b ob e))
    rw [List.mem_singleton.mp h] at e
    rw [S.sub.fresh (Nat.le_refl _)] at e; cases e
  · intro D h' tk' ys ws hD _ hpl hlen hP hF hns hk
    have hDh : hh.get? D = none := by
      cases e : hh.get? D with
      | none => rfl
      | some ob => have e2 : (hh.push { cls := Value.type "list_iterator", data := Data.fields #[Value.ref l, Value.int 0 0] }).get? D = none := hD
                   rw [Heap.get?_push_of_some _ e] at e2; cases e2
    have ew : ws = vs := by
      apply List.ext_getElem?
      intro j
      by_cases hj : j < ws.length
      · have e1 := hP j ws[j] (List.getElem?_eq_getElem hj)
        rw [List.getElem?_eq_getElem hj, ← e1]; simp
      · rw [List.getElem?_eq_none (by lia), List.getElem?_eq_none (by have : vs.toArray.size = ws.length := hlen.symm; simp at this; lia)]
    have hF' : Paired F vs ys.toList := by
      have e : ws.filter (fun _ => true) = ws := by simp
      rw [e, ew] at hF; exact hF
    have S1 : St o g (fun z => if z = y then some (.ref D) else m z) mu h' := by
      refine S.keepBut (hLe ▸ hns) (fun b ob hbL e => hk b ob (hLe ▸ hbL) (fun h => ?_) (Heap.get?_push_of_some _ e)) hLW
      rw [List.mem_singleton.mp h, hI] at e; cases e
    have hDD : h'.PlainList D ys.toList.toArray := by simpa using hpl
    obtain ⟨g'', a, b, c⟩ := S1.adopt (h₁ := hh) hDD (by
      cases e : g D with
      | none => rfl
      | some ob => rw [S.sub _ _ e] at hDh; cases hDh) hDh (Heap.Ns.live S.ns) (fun p hp => PlainList.live (S.mus p hp).1) (S.gr.gone hDh)
    exact done D ys.toList h' tk' g'' a b hF' c
end

section
variable {Γ : Wd} {g : View}
theorem ints_take {vs : List Value} {ns : List Int} (h : IntsAre vs ns) (k : Nat) : IntsAre (vs.take k) (ns.take k) := by
  induction h generalizing k with
  | nil => simp; exact .nil
  | cons n t _ ih => cases k with
    | zero => exact .nil
    | succ k => exact .cons _ _ (ih k)
theorem paired_eq : ∀ {xs ys : List Value}, Paired (fun v y => y = v) xs ys → ys = xs
  | _, _, .nil => rfl
  | _, _, .cons h r => by rw [h, paired_eq r]
theorem pen_ok (O : Γ.On g) {A : Around} {s₀ : Shared} {hh : Heap} {tk : Nat} {Q E : Value → Shared → Prop} {l : Addr} {vs : List Value} {ns : List Int} (r : Rm A 2) (hs : Sub g hh) (hl : LI g l vs) (hi : IntsAre vs ns) (hz : vs.length ≤ 1000)
    (ret : ∀ pa vs' h' tk' g', Grow [] hh g h' g' → h'.PlainList pa vs'.toArray → g' pa = none → hh.get? pa = none → PenV g' 0 vs' → Q (.ref pa) (sh s₀ h' tk')) :
    wpAny Γ.M A (call (.ref 170) [.ref l]) Q E (sh s₀ hh tk) := by
  refine enter (mu := []) (W := []) (binds := [(Str.ofString "script", .ref l)]) O hs r (by rfl) (by rfl) (BindsTo.of_eq (by rfl)) (by simp) (by simp) (by decide) (by rfl) fun h₁ tk L S B => ?_
  have B0 := B S
  have r' : ∀ env, Rm (A.deeper env) 1 := fun env => r.deeper
  have hi48 := ints_take hi 48
  refine wpAny_execs_cons ?_
  refine asg_start (fun v y => y = v) (by rfl) (by decide) (by decide) (by rfl) (by decide) (by rfl) (by rfl) (by rfl) ?_
  refine slc_start ?_
  refine Mine.nm (by assumption) rfl ?_
  refine wpAny_pure ?_
  refine partSome ?_
  refine cInt fun _ _ => ?_
  refine slcI (hi := some 48) S (hl.isList S.sub) .none (.int _ _) (by lia) (by exact pickUp 48) fun l2 h2 g2 hle2 hl2 S => ?_
  have O2 := O.mono hle2
  refine comp_asg (fun v y => y = v) S (r' _).1 hl2 (by simp; lia) ?_ ?_ (by rfl) (by exact List.mem_cons_self)
  · intro C v s₃ m₃ E' hv hn hm hs3
    refine callTy O2 hs3 b_int bb_int (by decide) ?_
    refine wpAny_items_cons (wpAny_Name (wpAny_loadName_local (by rfl) (by rfl) hn hm ?_) (by rfl))
    refine wpAny_items_nil ?_
    refine Exists.elim (List.getElem?_of_mem hv) fun i hiv => ?_
    refine Exists.elim (intsAt hi48 (k := (i : Int)) (by lia) (by have := (List.getElem?_eq_some_iff.mp hiv).1; omega)) fun n e1 => Exists.elim e1 fun t e2 => ?_
    have e3 : v = .int n t := Option.some.inj (hiv.symm.trans (by simpa using e2))
    exact intC' e3 ⟨rfl, s₃.heap, s₃.toks, rfl, fun _ _ e => e⟩
  · intro D ys h5 tk5 g4 hle4 hD hF S
    have hys : ys = vs.take 48 := paired_eq hF
    have hle := hle2.trans hle4
    have O4 := O.mono hle
    have hns : IntsAre ys (ns.take 48) := hys ▸ hi48
    have hlen : ys.length ≤ 48 := by rw [hys, List.length_take]; lia
    refine wpAny_execs_cons ?_
    refine wpAny_Assign_Name ?_
    refine cInt fun _ _ => ?_
    refine stor S fun h6 tk6 S => ?_
    refine wpAny_execs_cons (wpAny_mono (Q := fun f s' => f = .next ∧ ∃ h' tk' m' a ta, s' = sh s₀ h' tk' ∧ St ⟨h₁, g, [L], L⟩ g4 m' [] h' ∧ m' (Str.ofString "cells") = some (.ref D) ∧ m' (Str.ofString "great") = some (.int a ta) ∧ 0 ≤ a) ?_ (fun f s' hf => ?_) fun _ _ e => e)
    · refine wpAny_If ?_
      refine wpAny_isTrue_BoolOp ?_
      refine wpAny_allTrue_And_cons ?_
      refine PyProof.Rows.isTrue_plain ?_
      refine Mine.nm (by assumption) rfl ?_
      refine truthyL (hD.plain S.sub) (by lia) fun tk7 => ?_
      cases hys : ys.isEmpty with
      | true =>
        refine ite_neg (by simp) ?_
        refine ite_neg (by simp) ?_
        refine wpAny_execs_nil ?_
        exact ⟨rfl, _, _, _, _, _, rfl, S, rfl, rfl, Int.le_refl _⟩
      | false =>
        have hpos : 0 < ys.length := by cases ys with
          | nil => simp at hys
          | cons a r => simp
        refine ite_pos (by simp) ?_
        refine wpAny_allTrue_And_cons ?_
        refine wpAny_isTrue_Compare1 ?_
        refine callB O4 S.sub b_abs bb_abs (by decide) ?_
        refine wpAny_items_cons ?_
        refine Subscript_ ?_
        refine Mine.nm (by assumption) rfl ?_
        refine cInt fun _ _ => ?_
        refine Exists.elim (intsAt hns (k := 0) (Int.le_refl _) (by lia)) fun n0 e0 => Exists.elim e0 fun t0 e1 => ?_
        refine getsL (hD.plain S.sub) (Int.le_refl _) (by lia) e1 ?_
        refine wpAny_items_nil ?_
        refine absP fun a8 t8 tk8 ha8 => ?_
        refine wpAny_BinOp ?_
        refine cInt fun _ _ => ?_
        refine cInt fun _ _ => ?_
        refine powP (by lia) (by lia) (by lia) (by lia) fun a9 t9 tk9 ha9 => ?_
        refine PyProof.Rows.ge_int ?_
        refine wpAny_truthy_bool ?_
        by_cases hge : a9 ≤ a8
        · refine ite_pos (by simpa using hge) ?_
          refine wpAny_allTrue_And_nil ?_
          refine ite_pos rfl ?_
          refine wpAny_execs_cons ?_
          refine wpAny_Assign_Name ?_
          refine wpAny_BinOp ?_
          refine wpAny_BinOp ?_
          refine callB O4 S.sub b_abs bb_abs (by decide) ?_
          refine wpAny_items_cons ?_
          refine Subscript_ ?_
          refine Mine.nm (by assumption) rfl ?_
          refine cInt fun _ _ => ?_
          refine getsL (hD.plain S.sub) (Int.le_refl _) (by lia) e1 ?_
          refine wpAny_items_nil ?_
          refine absP fun a8 t8 tk8 ha8 => ?_
          refine cInt fun _ _ => ?_
          refine divP (by lia) (by lia) ha8 fun a10 t10 tk10 ha10 => ?_
          refine wpAny_BinOp ?_
          refine cInt fun _ _ => ?_
          refine cInt fun _ _ => ?_
          refine powP (by lia) (by lia) (by lia) (by lia) fun a11 t11 tk11 ha11 => ?_
          skip
          refine modP ha11 fun a12 t12 tk12 ha12 _ => ?_
          skip
          refine stor S fun h13 tk13 S => ?_
          refine wpAny_execs_nil ?_
          exact ⟨rfl, _, _, _, _, _, rfl, S, rfl, rfl, ha12⟩
        · refine ite_neg (by simpa using hge) ?_
          skip
          refine ite_neg (by simp) ?_
          refine wpAny_execs_nil ?_
          exact ⟨rfl, _, _, _, _, _, rfl, S, rfl, rfl, Int.le_refl _⟩
    · obtain ⟨rfl, h', tk', m', a, ta, rfl, S, e1, e2, ha⟩ := hf
      refine wpAny_execs_cons ?_
      refine wpAny_Assign_Name ?_
      refine cInt fun _ _ => ?_
      refine stor S fun h8 tk8 S => ?_
      refine wpAny_execs_cons (for_start ?_)
      refine nm S e1 ?_
      refine for_list S (r' _).1 hD (fun i g5 m5 mu5 => g5 = g4 ∧ mu5 = [] ∧ m5 (Str.ofString "cells") = some (.ref D) ∧ m5 (Str.ofString "great") = some (.int a ta) ∧ ∃ b tb, m5 (Str.ofString "mixed") = some (.int b tb) ∧ 0 ≤ b ∧ b < 2147483647) ⟨rfl, rfl, e1, e2, 1, _, rfl, by lia, by lia⟩ ?_ ?_
      · intro i v g5 m5 mu5 h9 tk9 E' hiv hj hle9 S'
        refine Exists.elim hj.2.2.2.2 fun b e => Exists.elim e fun tb hb => ?_
        have hg5 : g5 = g4 := hj.1
        have hmu5 : mu5 = [] := hj.2.1
        refine Exists.elim (intsAt hns (k := (i : Int)) (by lia) (by have := (List.getElem?_eq_some_iff.mp hiv).1; lia)) fun n e1 => Exists.elim e1 fun t e2 => ?_
        have e3 : v = .int n t := Option.some.inj (hiv.symm.trans (by simpa using e2))
        refine wpAny_execs_cons ?_
        refine wpAny_Assign_Name ?_
        refine wpAny_BinOp ?_
        refine wpAny_BinOp ?_
        refine wpAny_BinOp ?_
        refine wpAny_BinOp ?_
        refine nm S' (show _ = some (.int b tb) from hb.1) ?_
        refine cInt fun _ _ => ?_
        refine mulI (by omega) fun _ _ => ?_
        refine wpAny_BinOp ?_
        refine Mine.nm (by assumption) rfl ?_
        refine cInt fun _ _ => ?_
        refine modV e3 (by lia) fun c tc tkc hc0 hc1 => ?_
        refine addI fun _ _ => ?_
        refine cInt fun _ _ => ?_
        refine addI fun _ _ => ?_
        refine cInt fun _ _ => ?_
        refine modP (by lia) fun c2 tc2 tkc2 hc20 hc21 => ?_
        refine stor S' fun h10 tk10 S' => ?_
        refine wpAny_execs_nil ?_
        refine ⟨rfl, FAfter.of S' ⟨hg5, hmu5, hj.2.2.1, hj.2.2.2.1, c2, tc2, rfl, hc20, hc21⟩⟩
      · intro h9 tk9 g5 m5 mu5 hj hle9 S
        obtain ⟨rfl, rfl, f1, f2, b, tb, f3, hb0, hb1⟩ := hj
        refine wpAny_execs_cons ?_
        refine wpAny_Return_some ?_
        refine PyProof.Rows.List_ ?_
        refine wpAny_items_cons ?_
        refine nm S f1 ?_
        refine wpAny_items_cons ?_
        refine nm S f2 ?_
        refine wpAny_items_cons ?_
        refine nm S f3 ?_
        refine wpAny_items_cons ?_
        refine cInt fun _ _ => ?_
        refine wpAny_items_nil ?_
        refine newListM S (by simp) fun lp hp S => ?_
        exact ret _ _ _ _ _ (B S) S.mu0 (S.mus (lp, _) (List.mem_singleton.mpr rfl)).2.1 (S.newOf B0 (by simp)) ⟨_, _, _, _, _, _, _, _, _, rfl, hD, hns, by lia, ha, hb0, hb1, by lia, by lia⟩
end

theorem Rm.make {A : Around} {n : Nat} {C : Addr} {vals : List Value} (r : Rm A (n + 1)) : Rm (A.under (.builtin "type.__call__" ⟨.ref C :: vals, []⟩)) n := by
  refine ⟨r.1, ?_, ?_⟩
  · show A.depth + 1 + 6 * n < _; have := r.2.1; lia
  · have e : (Code.builtin "type.__call__" ⟨.ref C :: vals, []⟩).cUnits ≤ 10 := by
      have : (Code.builtin "type.__call__" ⟨.ref C :: vals, []⟩).cUnits = (Code.builtin "type.__call__" ⟨[], []⟩).cUnits := by rfl
      rw [this]; decide +kernel
    show A.units + (Code.builtin "type.__call__" ⟨.ref C :: vals, []⟩).cUnits + 40 * n < _
    have := r.2.2; lia

/-- an object in a view: its class and its own dict's entries -/
def IV (g : View) (x C : Addr) (es : List DictEntry) : Prop := ∃ dx n, g x = some (instObj C dx) ∧ g dx = some (dictOf es n)
theorem IV.mono {g g' : View} {x C es} (I : IV g x C es) (l : Le g g') : IV g' x C es := by obtain ⟨dx, n, a, b⟩ := I; exact ⟨dx, n, l _ _ a, l _ _ b⟩
section
variable {Γ : Wd} {A : Around} {E : Value → Shared → Prop} {s₀ : Shared} {hh : Heap} {tk : Nat} {env : Env} {o : Og} {g g' : View} {m : Nm} {mu : Mus} {x dx C : Addr} {v : Value} {pos : Pos} {name : Str} {es : List DictEntry} {n : Nat}
theorem St.other {h' : Heap} {d : Addr} (S : St o g m mu hh) (hs : Heap.SameBut d hh h') (hd : h'.get? d ≠ none) (hg : g d = none) (hL : d ≠ o.L) (hm : d ∉ mu.map (·.1)) (hW : d ∈ o.W) : St o g m mu h' := by
  refine ⟨S.ns.sameBut hs (Ne.symm hL), ⟨S.gr.le, S.gr.fr, fun b x e => hs.extBut b x (fun hb => ?_) (S.sub b x e), fun b x e hb => hs.extBut b x (fun e1 => hb (e1 ▸ hW)) (S.gr.old b x e hb), fun b hb e => same_live hs hd (S.gr.live b hb e)⟩, S.hid, fun p hp => ?_, S.nd⟩
  · subst hb; rw [hg] at e; cases e
  · obtain ⟨a1, a2⟩ := S.mus p hp
    exact ⟨a1.extBut hs.extBut (fun e => hm (e ▸ List.mem_map_of_mem hp)), a2⟩
theorem setAttrD {Q : Unit → Shared → Prop} (X : (KF Γ).In hh) (hx : hh.get? x = some (instObj C dx)) (hd : hh.get? dx = some (dictOf es n))
    (hs : findIn (KF Γ) (.ref C) "__setattr__" = some (some (.builtin "object.__setattr__"))) (hp : plainOver (KF Γ) C = true) (ht : takerIn (KF Γ) C name = some none) (hdi : hasDictIn (KF Γ) C = true) (hl : (getL name es).isSome = true) (hz : (putL name 0 .none v es).length ≤ 1000)
    (h : ∀ h' tk' hsh tok, h'.get? dx = some (dictOf (putL name hsh (.str name tok) v es) (putN name es n)) → Heap.SameBut dx hh h' → Q () (sh s₀ h' tk')) :
    wpAny Γ.M A (setAttr (.ref x) name v) Q E (sh s₀ hh tk) := by
  have X' : (KF Γ).In (sh s₀ hh tk).heap := X
  have I : InstAt hh x (instObj C dx) C (some (dictOf es n)) := ⟨hx, rfl, rfl, hd⟩
  refine set_plain (s := sh s₀ hh tk) X' I hs ?_
  have X2 : (KF Γ).In ({ sh s₀ hh tk with toks := (sh s₀ hh tk).toks + 1 } : Shared).heap := X
  have I2 : InstAt ({ sh s₀ hh tk with toks := (sh s₀ hh tk).toks + 1 } : Shared).heap x (instObj C dx) C (some (dictOf es n)) := I
  refine osa_open X2 I2 hp ht fun b => ?_
  obtain ⟨cd, hc, hd'⟩ := any_some hdi
  have hlen : ∀ (hsh : Int) (key : Value), (putL name hsh key v es).length ≤ 1000 := fun hsh key => by
    have e : ∀ (l : List DictEntry), (putL name hsh key v l).length = (putL name 0 .none v l).length := fun l => by
      induction l with
      | nil => rfl
      | cons a r ih => simp only [putL]; split <;> simp_all
    rw [e]; exact hz
  refine wpAny_bind (wpAny_pure (wpAny_bind (wpAny_bind (wpAny_loadPart hx (wpAny_bind ((looks_clsIn X hc).here ?_))))))
  rw [hd']
  refine wpAny_pure (a := some dx) (wpAny_bind (wpAny_pure (wpAny_bind ?_)))
  unfold nsSet
  refine wpAny_bind (wpAny_bind (wpAny_askSetting (wpAny_pure (wpAny_bind (wpAny_mkText (wpAny_bind (wpAny_loadPart hd ?_)))))))
  unfold getL at hl
  have c : (!es.toArray.any (·.key.isStr name) && es.toArray.any (·.refKey)) = false := by
    rw [← Array.any_toList, ← Array.any_toList]
    split at hl
    · rename_i en he
      rw [List.any_eq_true.mpr ⟨en, List.mem_of_find?_eq_some he, List.find?_some he⟩]; rfl
    · split at hl
      · cases hl
      · rename_i z; rw [Bool.not_eq_true] at z; rw [z, Bool.and_false]
  dsimp only
  rw [aRefKeyMayBeTheName_at, c]
  refine wpAny_updatePart hd ?_
  have hfin : ∀ hsh tok, (hh.update dx (Obj.putName name hsh (.str name tok) v)).get? dx = some (dictOf (putL name hsh (.str name tok) v es) (putN name es n)) := fun hsh tok => by
    rw [Heap.get?_update_self _ hd (by rw [putName_dict]; rfl), putName_dict]
  refine wpAny_bind (wpAny_lookBehind (hfin _ _) (pastItsLine_dict (by rw [List.size_toArray, sizeLine_eq]; have := hlen (PyData.keyHash Γ.w.params name) (.str name ((sh s₀ hh tk).toks + 1)); exact Nat.le_trans (hlen _ _) (by lia))) ?_)
  exact wpAny_pure (h _ _ _ _ (hfin _ _) (Heap.SameBut.update ..))
theorem St.inst (S : St o g m mu hh) (hx : o.h.get? dx ≠ none) (hg : o.g dx = none) : g dx = none := by
  cases e : o.h.get? dx with
  | none => exact absurd e hx
  | some ob => exact S.gr.hidden e hg
theorem setA {Q : Unit → Shared → Prop} (O : Γ.On g) (S : St o g m [] hh) (hx : g x = some (instObj C dx)) (hd : hh.get? dx = some (dictOf es n)) (hg : g dx = none) (hL : dx ≠ o.L) (hW : dx ∈ o.W)
    (hs : findIn (KF Γ) (.ref C) "__setattr__" = some (some (.builtin "object.__setattr__"))) (hp : plainOver (KF Γ) C = true) (ht : takerIn (KF Γ) C name = some none) (hdi : hasDictIn (KF Γ) C = true) (hl : (getL name es).isSome = true) (hz : (putL name 0 .none v es).length ≤ 1000)
    (h : ∀ h' tk' hsh tok, St o g m [] h' → h'.get? dx = some (dictOf (putL name hsh (.str name tok) v es) (putN name es n)) → Q () (sh s₀ h' tk')) :
    wpAny Γ.M A (setAttr (.ref x) name v) Q E (sh s₀ hh tk) :=
  setAttrD (O.K S.sub) (S.sub _ _ hx) hd hs hp ht hdi hl hz fun h' tk' hsh tok e sb => h h' tk' hsh tok (S.other sb (by rw [e]; simp) hg hL (by simp) hW) e
/-- a field of an object's own -/
theorem getV {s : Shared} {attr : Option Value} {Q : Value → Shared → Prop} (O : Γ.On g) (S : Sub g s.heap) (I : IV g x C es) (hg : plainGet (KF Γ) C name = true) (hdi : hasDictIn (KF Γ) C = true)
    (ha : findIn (KF Γ) (.ref C) name = some attr) (hn : noGet (KF Γ) attr = true) (hl : getL name es = some (some v)) (hv : handedIn v = true) (h : Q v { s with toks := s.toks + 1 }) :
    wpAny Γ.M A (getAttr (.ref x) name true) Q E s := by
  obtain ⟨dx, n, a, b⟩ := I
  exact get_value (O.K S) (ox := instObj C dx) (od := some (dictOf es n)) ⟨S _ _ a, rfl, rfl, S _ _ b⟩ (plainGet_of hg).1 (findObj_own hdi ha hn hl) hv h
/-- a call of a method of an object's class, without arguments -/
def MOn (Γ : Wd) (A : Around) (E : Value → Shared → Prop) (name : Str) (Q : Value → Shared → Prop) (ov : Value) (s₁ : Shared) : Prop :=
  ∃ x C es g f, ov = .ref x ∧ Γ.On g ∧ Sub g s₁.heap ∧ IV g x C es ∧ plainGet (KF Γ) C name = true ∧ findIn (KF Γ) (.ref C) name = some (some (.ref f)) ∧ isFn (KF Γ) (.ref f) = true ∧ keepIn (KF Γ) (.ref f) = true ∧ getL name es = some none ∧
      wpAny Γ.M A (call (.ref f) [.ref x]) Q E s₁
theorem callM {s : Shared} {ob : Expr} {apos cpos : Pos} {Q : Value → Shared → Prop} {pl : Sem Bool}
    (h : wpAny Γ.M A (eval ob env) (MOn Γ A E name Q) E s)
    (he : eval (.Call (.Attribute ob name apos) [] [] cpos) env = (do
      let ov ← eval ob env
      standAt apos.atName
      let (f, first) ← holding [ov] (getMethod ov name pl)
      callWith cpos f first (backTo cpos (starEach [] env)) (backToKw cpos (keywordEach [] env))) := by rfl) :
    wpAny Γ.M A (eval (.Call (.Attribute ob name apos) [] [] cpos) env) Q E s := by
  refine methodCall_KW (pl := pl) (wpAny_mono h (fun ov s₁ h₁ => ?_) fun _ _ e => e) he
  obtain ⟨x, C, es, g, f, rfl, O, S, ⟨dx, n, a, b⟩, hg, hf, hfn, hk, hl, h₁⟩ := h₁
  refine method_fn (O.K S) (ox := instObj C dx) (od := some (dictOf es n)) ⟨S _ _ a, rfl, rfl, S _ _ b⟩ (plainGet_of hg).1 (plainGet_of hg).2 hf (beq_iff_eq.mp hfn) (by show (lookIn name (dictOf es n)).map _ = _; rw [lookIn_dict, hl]; rfl) ?_
  exact callWith_K0 (O.K S) hk h₁
theorem mOn {s : Shared} {Q : Value → Shared → Prop} (f : Addr) (O : Γ.On g) (S : Sub g s.heap) (I : IV g x C es) (hg : plainGet (KF Γ) C name = true) (hf : findIn (KF Γ) (.ref C) name = some (some (.ref f))) (hfn : isFn (KF Γ) (.ref f) = true) (hk : keepIn (KF Γ) (.ref f) = true) (hl : getL name es = some none)
    (h : wpAny Γ.M A (call (.ref f) [.ref x]) Q E s) : MOn Γ A E name Q (.ref x) s := ⟨x, C, es, g, f, rfl, O, S, I, hg, hf, hfn, hk, hl, h⟩
/-- a new object of a class of the text's -/
theorem make {fI : Addr} {fname qual : Str} {params : Arguments} {body : List Stmt} {scope : PySem.Scope} {dV kV doc pm cdv ct oc : Value} {an od : Option Addr} {osl : Array (Option Value)} {args : List Value} (binds : Addr → List (Str × Value)) {n : Nat} {Q : Value → Shared → Prop}
    (O : Γ.On g) (hs : Sub g hh) (r : Rm A (n + 1)) (hm : makesIn (KF Γ) C = true) (hi : findIn (KF Γ) (.ref C) "__init__" = some (some (.ref fI))) (hf : isFn (KF Γ) (.ref fI) = true)
    (ho : (KF Γ).lookup fI = some ⟨oc, od, .func (fnOf fname qual params body scope dV kV doc pm an cdv ct), osl⟩) (hcd : codeIn (KF Γ) cdv qual = true)
    (hbind : ∀ x s, (KF Γ).In s.heap → BindsTo s (fnOf fname qual params body scope dV kV doc pm an cdv ct) ⟨.ref x :: args, []⟩ (binds x))
    (hcell : ∀ x ∈ scope.names, x.2 ≠ .cell) (hloc : ∀ x, ((binds x).all fun y => decide (scope.names.lookup y.1 = some .local)) = true)
    (h : ∀ x dx h₁ tk' L g1, Le g g1 → g1 x = some (instObj C dx) → g1 dx = none → dx ≠ L → h₁.get? dx = some (dictOf [] 0) → St ⟨h₁, g1, [L, dx], L⟩ g1 (fun y => (binds x).reverse.lookup y) [] h₁ →
      (∀ {g' m' h' es n}, St ⟨h₁, g1, [L, dx], L⟩ g' m' [] h' → h'.get? dx = some (dictOf es n) → ∃ g'', Le g' g'' ∧ IV g'' x C es ∧ Grow [] hh g h' g'') →
      ∀ A', Rm A' (n - 1) → A'.handled = none →
      wpAny Γ.M A' (execs body (envOf qual scope L fI cdv)) (fun fl s' => (match fl with | .ret v => v | _ => .none) = Value.none ∧ Q (.ref x) s') (fun _ _ => False) (sh s₀ h₁ tk'))
    (hn : 1 ≤ n := by lia) (hco : scope.isCoroutine = false := by rfl) (hgen : scope.isGenerator = false := by rfl) (hk : scope.kind = .function := by rfl) :
    wpAny Γ.M A (call (.ref C) args) Q E (sh s₀ hh tk) := by
  have X : (KF Γ).In hh := O.K hs
  refine wpAny_call ?_
  refine make_core (h := hh) (makes_of X hm) (looks_findIn X hi) (fun self => bind_fn X self (beq_iff_eq.mp hf)) (.inl rfl) ?_
  have k2 : ∀ b ob, hh.get? b = some ob → ((hh.push emptyDict).push (instObj C hh.objs.size)).get? b = some ob := fun b ob e => Heap.get?_push_of_some _ (Heap.get?_push_of_some _ e)
  have hx2 : ((hh.push emptyDict).push (instObj C hh.objs.size)).get? (hh.objs.size + 1) = some (instObj C hh.objs.size) := by
    have := Heap.get?_push_size (hh.push emptyDict) (o := instObj C hh.objs.size) rfl
    rwa [Heap.size_push] at this
  have hd2 : ((hh.push emptyDict).push (instObj C hh.objs.size)).get? hh.objs.size = some (dictOf [] 0) := Heap.get?_push_of_some _ (Heap.get?_push_size hh (o := emptyDict) rfl)
  have hL2 : ((hh.push emptyDict).push (instObj C hh.objs.size)).objs.size = hh.objs.size + 2 := by rw [Heap.size_push, Heap.size_push]
  generalize (hh.push emptyDict).push (instObj C hh.objs.size) = H2 at k2 hx2 hd2 hL2 ⊢
  have hsx : Sub g H2 := fun b ob e => k2 _ _ (hs _ _ e)
  have r1 := r.make (C := C) (vals := args)
  refine codeAny_call_def (s := sh s₀ H2 tk) (fd := fnOf fname qual params body scope dV kV doc pm an cdv ct) (body := body) (binds := binds (hh.objs.size + 1)) r1.depth ((O.K hsx) _ _ ho) rfl (O.top hsx).nolimit (codeRec_of (O.K hsx) hcd) rfl (hbind _ _ (O.K hsx)) hcell (locs (hloc _)) (fun h₁ hns hk₁ => ?_) hco hgen hk
  replace hns : h₁.Ns H2.objs.size fun x => (binds (hh.objs.size + 1)).reverse.lookup x := hns
  replace hk₁ : ∀ b o, H2.get? b = some o → h₁.get? b = some o := hk₁
  have gx : g (hh.objs.size + 1) = none := hs.fresh (Nat.le_succ _)
  have gd : g hh.objs.size = none := hs.fresh (Nat.le_refl _)
  have gL : g H2.objs.size = none := hs.fresh (by rw [hL2]; exact Nat.le_add_right _ _)
  have hle := Le.set (ob := instObj C hh.objs.size) gx
  have g1d : (g.set (hh.objs.size + 1) (instObj C hh.objs.size)) hh.objs.size = none := by simp [View.set, gd]
  have hdL : hh.objs.size ≠ H2.objs.size := by lia
  have S : St ⟨h₁, g.set (hh.objs.size + 1) (instObj C hh.objs.size), [H2.objs.size, hh.objs.size], H2.objs.size⟩ (g.set (hh.objs.size + 1) (instObj C hh.objs.size)) (fun y => (binds (hh.objs.size + 1)).reverse.lookup y) [] h₁ := by
    refine ⟨hns, Grow.refl fun b ob e => ?_, ?_, by simp, by simp⟩
    · replace e : (g.set (hh.objs.size + 1) (instObj C hh.objs.size)) b = some ob := e
      by_cases hb : b = hh.objs.size + 1
      · subst hb; rw [View.set_self] at e; cases e; exact hk₁ _ _ hx2
      · exact hk₁ _ _ (hsx _ _ (by simpa [View.set, hb] using e))
    · show (if H2.objs.size = _ then _ else _) = _
      rw [if_neg (by rw [hL2]; lia)]; exact gL
  have none1 : ∀ b, h₁.get? b = none → hh.get? b = none := fun b e => by
    cases e1 : hh.get? b with
    | none => rfl
    | some ob => rw [hk₁ _ _ (k2 _ _ e1)] at e; cases e
  have body' := h (hh.objs.size + 1) hh.objs.size h₁ ((sh s₀ H2 tk).toks + (binds (hh.objs.size + 1)).length) H2.objs.size _ hle (View.set_self ..) g1d hdL (hk₁ _ _ hd2) S (fun {g' m' h' es n} S' hd' => by
    have gd' : g' hh.objs.size = none := S'.inst (by show h₁.get? _ ≠ none; rw [hk₁ _ _ hd2]; simp) g1d
    refine ⟨g'.set hh.objs.size (dictOf es n), Le.set gd', ⟨hh.objs.size, n, Le.set gd' _ _ (S'.gr.le _ _ (View.set_self ..)), View.set_self ..⟩, hle.trans (S'.gr.le.trans (Le.set gd')), fun b hb => ?_, fun b ob e => ?_, fun b ob e _ => S'.gr.old b ob (hk₁ _ _ (k2 _ _ e)) ?_, by simp⟩
    · by_cases hbd : b = hh.objs.size
      · subst hbd; exact .inr (get?_none_ge (Nat.le_refl _))
      · have hb' : g' b ≠ none := by simpa [View.set, hbd] using hb
        rcases S'.gr.fr b hb' with e | e
        · by_cases hbx : b = hh.objs.size + 1
          · subst hbx; exact .inr (get?_none_ge (Nat.le_succ _))
          · left; simpa [View.set, hbx] using e
        · exact .inr (none1 _ e)
    · by_cases hbd : b = hh.objs.size
      · subst hbd; rw [View.set_self] at e; cases e; exact hd'
      · exact S'.sub b ob (by simpa [View.set, hbd] using e)
    · intro hm
      have hlt : b < hh.objs.size := Heap.lt_size e
      rcases List.mem_cons.mp hm with e1 | e1
      · have e2 : b = H2.objs.size := e1
        rw [hL2] at e2; exact absurd hlt (by rw [e2]; exact Nat.not_lt.mpr (Nat.le_add_right _ _))
      · have e2 : b = hh.objs.size := List.mem_singleton.mp e1
        exact absurd hlt (by rw [e2]; exact Nat.lt_irrefl _)) ((A.under (.builtin "type.__call__" ⟨.ref C :: args, []⟩)).deeper (envOf qual scope H2.objs.size fI cdv)) (by
        have := (show Rm (A.under (.builtin "type.__call__" ⟨.ref C :: args, []⟩)) ((n - 1) + 1) by rw [Nat.sub_add_cancel hn]; exact r1).deeper (env := envOf qual scope H2.objs.size fI cdv)
        exact this) r1.1
  refine wpAny_mono body' (fun fl s' hl => ?_) fun _ _ e => e.elim
  exact hl
end

def Sh (es : List DictEntry) : Prop := getL (Str.ofString "is_leaf") es = some none ∧ getL (Str.ofString "head") es = some none ∧ getL (Str.ofString "show") es = some none ∧ getL (Str.ofString "height") es = some none ∧ getL (Str.ofString "leaves") es = some none
/-- a token -/
def TokV (g : View) (x : Addr) (k t : Str) : Prop := ∃ es t1 t2, IV g x 161 es ∧ getL (Str.ofString "kind") es = some (some (.str k t1)) ∧ getL (Str.ofString "text") es = some (some (.str t t2)) ∧ getL (Str.ofString "told") es = some none
theorem TokV.mono {g g' : View} {x k t} (I : TokV g x k t) (l : Le g g') : TokV g' x k t := by obtain ⟨a, b, c, d, e⟩ := I; exact ⟨a, b, c, d.mono l, e⟩
mutual
/-- an object that stands for a tree -/
def IsOb (g : View) : Tr → Value → Prop
  | .leaf k t, v => ∃ x es l t1 ta, v = .ref x ∧ IV g x 120 es ∧ Sh es ∧ getL (Str.ofString "name") es = some (some (.str k t1)) ∧ getL (Str.ofString "children") es = some (some (.ref l)) ∧ LV g l [] ∧ getL (Str.ofString "token") es = some (some (.ref ta)) ∧ TokV g ta k t
  | .node n cs, v => ∃ x es l t1 vs, v = .ref x ∧ IV g x 85 es ∧ Sh es ∧ getL (Str.ofString "name") es = some (some (.str n t1)) ∧ getL (Str.ofString "children") es = some (some (.ref l)) ∧ LV g l vs ∧ IsObs g cs vs
def IsObs (g : View) : Fo → List Value → Prop
  | .nil, vs => vs = []
  | .cons t r, vs => ∃ v ws, vs = v :: ws ∧ IsOb g t v ∧ IsObs g r ws
end
mutual
theorem IsOb.mono {g g' : View} (l : Le g g') : ∀ (t : Tr) {v : Value}, IsOb g t v → IsOb g' t v
  | .leaf k t, v, h => by simp only [IsOb] at h ⊢; obtain ⟨a, b, c, d, e, f, i, j, k, m, n, p, q⟩ := h; exact ⟨a, b, c, d, e, f, i.mono l, j, k, m, n.mono l, p, q.mono l⟩
  | .node n cs, v, h => by simp only [IsOb] at h ⊢; obtain ⟨a, b, c, d, e, f, i, j, k, m, n, p⟩ := h; exact ⟨a, b, c, d, e, f, i.mono l, j, k, m, n.mono l, IsObs.mono l cs p⟩
theorem IsObs.mono {g g' : View} (l : Le g g') : ∀ (f : Fo) {vs : List Value}, IsObs g f vs → IsObs g' f vs
  | .nil, vs, h => by simp only [IsObs] at h ⊢; exact h
  | .cons t r, vs, h => by simp only [IsObs] at h ⊢; obtain ⟨v, ws, e, x, y⟩ := h; exact ⟨v, ws, e, IsOb.mono l t x, IsObs.mono l r y⟩
end
theorem IsObs.of {g : View} : ∀ (f : Fo) {vs : List Value}, All2 (IsOb g) f.list vs → IsObs g f vs
  | .nil, _, h => by cases h; simp [IsObs]
  | .cons t r, _, h => by cases h with | cons a b => simp only [IsObs]; exact ⟨_, _, rfl, a, IsObs.of r b⟩
theorem IsObs.all {g : View} : ∀ (f : Fo) {vs : List Value}, IsObs g f vs → All2 (IsOb g) f.list vs
  | .nil, _, h => by simp only [IsObs] at h; subst h; exact .nil
  | .cons t r, _, h => by simp only [IsObs] at h; obtain ⟨v, ws, rfl, x, y⟩ := h; exact .cons x (IsObs.all r y)

section
variable {Γ : Wd} {A : Around} {E : Value → Shared → Prop} {s₀ : Shared} {hh : Heap} {tk : Nat} {g : View}
theorem token_ok (O : Γ.On g) (hs : Sub g hh) (r : Rm A 3) {k t : Str} {tk1 tt1 : Tok} {Q : Value → Shared → Prop}
    (ret : ∀ x h' tk' g', Grow [] hh g h' g' → TokV g' x k t → Q (.ref x) (sh s₀ h' tk')) : wpAny Γ.M A (call (.ref 161) [.str k tk1, .str t tt1, .none]) Q E (sh s₀ hh tk) := by
  refine make (n := 2) (fI := 144) (fun x => [(Str.ofString "self", .ref x), (Str.ofString "kind", .str k tk1), (Str.ofString "text", .str t tt1), (Str.ofString "at", .none), (Str.ofString "worth", .none)]) O hs r (by kernel_rfl) (by kernel_rfl) (by kernel_rfl) (by rfl) (by rfl)
    (fun x s X => BindsTo.of_defaults rfl (X 137 _ (by rfl)) rfl rfl rfl) (by decide) (fun x => by rfl) fun x dx h₁ tk' L g1 hle gx gd hdL hd S B A' r' hA' => ?_
  have O1 := O.mono hle
  refine wpAny_execs_cons ?_
  refine plainObj_wpAny_Assign_Attribute ?_
  refine Mine.nm (by assumption) rfl ?_
  refine Mine.nm (by assumption) rfl ?_
  refine setA O1 S gx hd gd hdL (by simp) (by kernel_rfl) (by kernel_rfl) (by kernel_rfl) (by kernel_rfl) (by kernel_rfl) (Nat.le_of_ble_eq_true (by kernel_rfl)) fun h' tk' hs1 to1 S hd => ?_
  refine wpAny_execs_cons ?_
  refine plainObj_wpAny_Assign_Attribute ?_
  refine Mine.nm (by assumption) rfl ?_
  refine Mine.nm (by assumption) rfl ?_
  refine setA O1 S gx hd gd hdL (by simp) (by kernel_rfl) (by kernel_rfl) (by kernel_rfl) (by kernel_rfl) (by kernel_rfl) (Nat.le_of_ble_eq_true (by kernel_rfl)) fun h' tk' hs2 to2 S hd => ?_
  refine wpAny_execs_cons ?_
  refine plainObj_wpAny_Assign_Attribute ?_
  refine Mine.nm (by assumption) rfl ?_
  refine Mine.nm (by assumption) rfl ?_
  refine setA O1 S gx hd gd hdL (by simp) (by kernel_rfl) (by kernel_rfl) (by kernel_rfl) (by kernel_rfl) (by kernel_rfl) (Nat.le_of_ble_eq_true (by kernel_rfl)) fun h' tk' hs3 to3 S hd => ?_
  refine wpAny_execs_cons ?_
  refine plainObj_wpAny_Assign_Attribute ?_
  refine wpAny_IfExp ?_
  refine wpAny_isTrue_Compare1 ?_
  refine Mine.nm (by assumption) rfl ?_
  refine wpAny_Constant_none ?_
  refine is_none ?_
  refine wpAny_truthy_bool ?_
  refine ite_pos (by rfl) ?_
  refine Mine.nm (by assumption) rfl ?_
  refine Mine.nm (by assumption) rfl ?_
  refine setA O1 S gx hd gd hdL (by simp) (by kernel_rfl) (by kernel_rfl) (by kernel_rfl) (by kernel_rfl) (by kernel_rfl) (Nat.le_of_ble_eq_true (by kernel_rfl)) fun h' tk' hs4 to4 S hd => ?_
  refine wpAny_execs_nil ?_
  refine ⟨rfl, Exists.elim (B S hd) fun g2 b => ?_⟩
  exact ret _ _ _ _ b.2.2 ⟨_, tk1, tt1, b.2.1, by kernel_rfl, by kernel_rfl, by kernel_rfl⟩
end

section
variable {Γ : Wd} {A : Around} {E : Value → Shared → Prop} {s₀ : Shared} {hh : Heap} {tk : Nat} {g : View} {o : Og} {m : Nm} {mu : Mus}
theorem copyL {l : Addr} {vs : List Value} {Q : Value → Shared → Prop} (S : St o g m mu hh) (hl : hh.IsList l vs.toArray) (hz : vs.length ≤ 1000000) (h : ∀ l' h' g', Le g g' → LV g' l' vs → St o g' m mu h' → Q (.ref l') (sh s₀ h' tk)) :
    wpAny Γ.M A (call (.type "list") [.ref l]) Q E (sh s₀ hh tk) := by
  obtain ⟨ob, ho, hc, n, hd⟩ := hl
  refine call_list_seq (s := sh s₀ hh tk) (hsz := by rw [sizeLine_eq]; simp; lia) l (.inl rfl) ho hc hd fun h' c' hk hD => ?_
  have S1 := S.after (keepsGrow S.sub hk)
  have hn : hh.get? hh.objs.size = none := get?_none_ge (Nat.le_refl _)
  obtain ⟨g', a, b, c⟩ := S1.adopt (h₁ := hh) (ys := vs) ⟨c', hD⟩ (S.sub.fresh (Nat.le_refl _)) hn (Heap.Ns.live S.ns) (fun p hp => PlainList.live (S.mus p hp).1) (S.gr.gone hn)
  exact h _ _ _ a b c
theorem tok_kind {x : Addr} {k t : Str} {Q : Value → Shared → Prop} (O : Γ.On g) (S : Sub g hh) (T : TokV g x k t) (h : ∀ tok tk', Q (.str k tok) (sh s₀ hh tk')) : wpAny Γ.M A (getAttr (.ref x) (Str.ofString "kind") true) Q E (sh s₀ hh tk) := by
  obtain ⟨es, t1, t2, I, a, b, c⟩ := T
  exact getV (s := sh s₀ hh tk) (attr := none) O S I (by kernel_rfl) (by kernel_rfl) (by kernel_rfl) (by kernel_rfl) a rfl (h _ _)
theorem tok_text {x : Addr} {k t : Str} {Q : Value → Shared → Prop} (O : Γ.On g) (S : Sub g hh) (T : TokV g x k t) (h : ∀ tok tk', Q (.str t tok) (sh s₀ hh tk')) : wpAny Γ.M A (getAttr (.ref x) (Str.ofString "text") true) Q E (sh s₀ hh tk) := by
  obtain ⟨es, t1, t2, I, a, b, c⟩ := T
  exact getV (s := sh s₀ hh tk) (attr := none) O S I (by kernel_rfl) (by kernel_rfl) (by kernel_rfl) (by kernel_rfl) b rfl (h _ _)
theorem leaf_ok (O : Γ.On g) (hs : Sub g hh) (r : Rm A 3) {x : Addr} {k t : Str} (T : TokV g x k t) {Q : Value → Shared → Prop}
    (ret : ∀ v h' tk' g', Grow [] hh g h' g' → IsOb g' (.leaf k t) v → Q v (sh s₀ h' tk')) : wpAny Γ.M A (call (.ref 120) [.ref x]) Q E (sh s₀ hh tk) := by
  refine make (n := 2) (fI := 103) (fun y => [(Str.ofString "self", .ref y), (Str.ofString "token", .ref x)]) O hs r (by kernel_rfl) (by kernel_rfl) (by kernel_rfl) (by rfl) (by rfl)
    (fun x s X => BindsTo.of_eq (by rfl)) (by decide) (fun x => by rfl) fun x dx h₁ tk' L g1 hle gx gd hdL hd S B A' r' hA' => ?_
  have O1 := O.mono hle
  refine wpAny_execs_cons ?_
  refine plainObj_wpAny_Assign_Attribute ?_
  refine PyProof.Rows.Attribute_any_ ?_
  refine Mine.nm (by assumption) rfl ?_
  refine tok_kind O1 S.sub (T.mono hle) fun t1 tk1 => ?_
  refine Mine.nm (by assumption) rfl ?_
  refine setA O1 S gx hd gd hdL (by simp) (by kernel_rfl) (by kernel_rfl) (by kernel_rfl) (by kernel_rfl) (by kernel_rfl) (Nat.le_of_ble_eq_true (by kernel_rfl)) fun h' tk' hs1 to1 S hd => ?_
  refine wpAny_execs_cons ?_
  refine plainObj_wpAny_Assign_Attribute ?_
  refine cInt fun _ _ => ?_
  refine Mine.nm (by assumption) rfl ?_
  refine setA O1 S gx hd gd hdL (by simp) (by kernel_rfl) (by kernel_rfl) (by kernel_rfl) (by kernel_rfl) (by kernel_rfl) (Nat.le_of_ble_eq_true (by kernel_rfl)) fun h' tk' hs2 to2 S hd => ?_
  refine wpAny_execs_cons ?_
  refine plainObj_wpAny_Assign_Attribute ?_
  refine PyProof.Rows.List_ ?_
  refine wpAny_items_nil ?_
  have S0 := S
  have hd0 := hd
  refine newListI S.restart (by simp) fun l h2 g2 hle2 hl2 S2 => ?_
  have S := S0.rejoin List.mem_cons_self S2
  have hd := S2.gr.old dx _ hd0 (by simpa using hdL)
  have gx := hle2 _ _ gx
  have gd : g2 dx = none := S2.gr.hidden hd0 gd
  have O2 := O1.mono hle2
  refine Mine.nm (by assumption) rfl ?_
  refine setA O2 S gx hd gd hdL (by simp) (by kernel_rfl) (by kernel_rfl) (by kernel_rfl) (by kernel_rfl) (by kernel_rfl) (Nat.le_of_ble_eq_true (by kernel_rfl)) fun h' tk' hs3 to3 S hd => ?_
  refine wpAny_execs_cons ?_
  refine plainObj_wpAny_Assign_Attribute ?_
  refine Mine.nm (by assumption) rfl ?_
  refine Mine.nm (by assumption) rfl ?_
  refine setA O2 S gx hd gd hdL (by simp) (by kernel_rfl) (by kernel_rfl) (by kernel_rfl) (by kernel_rfl) (by kernel_rfl) (Nat.le_of_ble_eq_true (by kernel_rfl)) fun h' tk' hs4 to4 S hd => ?_
  refine wpAny_execs_nil ?_
  refine ⟨rfl, Exists.elim (B S hd) fun g3 b => ?_⟩
  refine ret _ _ _ _ b.2.2 ?_
  simp only [IsOb]
  exact ⟨_, _, l, t1, _, rfl, b.2.1, ⟨by kernel_rfl, by kernel_rfl, by kernel_rfl, by kernel_rfl, by kernel_rfl⟩, by kernel_rfl, by kernel_rfl, hl2.mono b.1, by kernel_rfl, T.mono (hle.trans (hle2.trans b.1))⟩
theorem tree_ok (O : Γ.On g) (hs : Sub g hh) (r : Rm A 3) {l : Addr} {n : Str} {cs : Fo} {vs : List Value} {tn t3 : Tok} (hl : LV g l vs) (hz : vs.length ≤ 1000) (hk : IsObs g cs vs) {Q : Value → Shared → Prop}
    (ret : ∀ v h' tk' g', Grow [] hh g h' g' → IsOb g' (.node n cs) v → Q v (sh s₀ h' tk')) : wpAny Γ.M A (call (.ref 85) [.str n tn, .int 3 t3, .ref l]) Q E (sh s₀ hh tk) := by
  refine make (n := 2) (fI := 35) (fun y => [(Str.ofString "self", .ref y), (Str.ofString "name", .str n tn), (Str.ofString "rule", .int 3 t3), (Str.ofString "children", .ref l)]) O hs r (by kernel_rfl) (by kernel_rfl) (by kernel_rfl) (by rfl) (by rfl)
    (fun x s X => BindsTo.of_eq (by rfl)) (by decide) (fun x => by rfl) fun x dx h₁ tk' L g1 hle gx gd hdL hd S B A' r' hA' => ?_
  have O1 := O.mono hle
  refine wpAny_execs_cons ?_
  refine plainObj_wpAny_Assign_Attribute ?_
  refine Mine.nm (by assumption) rfl ?_
  refine Mine.nm (by assumption) rfl ?_
  refine setA O1 S gx hd gd hdL (by simp) (by kernel_rfl) (by kernel_rfl) (by kernel_rfl) (by kernel_rfl) (by kernel_rfl) (Nat.le_of_ble_eq_true (by kernel_rfl)) fun h' tk' hs1 to1 S hd => ?_
  refine wpAny_execs_cons ?_
  refine plainObj_wpAny_Assign_Attribute ?_
  refine Mine.nm (by assumption) rfl ?_
  refine Mine.nm (by assumption) rfl ?_
  refine setA O1 S gx hd gd hdL (by simp) (by kernel_rfl) (by kernel_rfl) (by kernel_rfl) (by kernel_rfl) (by kernel_rfl) (Nat.le_of_ble_eq_true (by kernel_rfl)) fun h' tk' hs2 to2 S hd => ?_
  refine wpAny_execs_cons ?_
  refine plainObj_wpAny_Assign_Attribute ?_
  refine callTy O1 S.sub b_list bb_list (by decide) ?_
  refine wpAny_items_cons ?_
  refine Mine.nm (by assumption) rfl ?_
  refine wpAny_items_nil ?_
  have S0 := S
  have hd0 := hd
  refine copyL S.restart ((hl.mono hle).isList S.sub) (by lia) fun l h2 g2 hle2 hl2 S2 => ?_
  have S := S0.rejoin List.mem_cons_self S2
  have hd := S2.gr.old dx _ hd0 (by simpa using hdL)
  have gx := hle2 _ _ gx
  have gd : g2 dx = none := S2.gr.hidden hd0 gd
  have O2 := O1.mono hle2
  refine Mine.nm (by assumption) rfl ?_
  refine setA O2 S gx hd gd hdL (by simp) (by kernel_rfl) (by kernel_rfl) (by kernel_rfl) (by kernel_rfl) (by kernel_rfl) (Nat.le_of_ble_eq_true (by kernel_rfl)) fun h' tk' hs3 to3 S hd => ?_
  refine wpAny_execs_nil ?_
  refine ⟨rfl, Exists.elim (B S hd) fun g3 b => ?_⟩
  refine ret _ _ _ _ b.2.2 ?_
  simp only [IsOb]
  exact ⟨_, _, l, tn, vs, rfl, b.2.1, ⟨by kernel_rfl, by kernel_rfl, by kernel_rfl, by kernel_rfl, by kernel_rfl⟩, by kernel_rfl, by kernel_rfl, hl2.mono b.1, IsObs.mono (hle.trans (hle2.trans b.1)) _ hk⟩

theorem made_ok (O : Γ.On g) : ∀ (n : Nat) (t : Tr) (v : Value) (g' : View), Le g g' → t.dep < n → t.wide → IsPl g' t v → OkI Γ 194 (n + 3) [v] g' (fun r g => IsOb g t r) := by
  intro n
  induction n with
  | zero => intro t v g' _ h; exact absurd h (Nat.not_lt_zero _)
  | succ n ih =>
    intro t v gb hle₀ hd hw hp A s₀ hh tk Q E r hs ret
    have O₀ := O.mono hle₀
    have hw1 := Tr.wide_kids hw
    refine enter (mu := []) (W := []) (binds := [(Str.ofString "plain", v)]) O₀ hs r (by rfl) (by rfl) (BindsTo.of_eq (by rfl)) (by simp) (by simp) (by decide) (by rfl) fun h₁ tk L S B => ?_
    have r' : ∀ env, Rm (A.deeper env) (n + 3) := fun env => r.deeper
    cases t with
    | leaf k x =>
      simp only [IsPl] at hp
      obtain ⟨a, tk1, tt1, rfl, hT⟩ := hp
      refine wpAny_execs_cons ?_
      refine wpAny_If ?_
      refine wpAny_isTrue_Compare1 ?_
      refine Subscript_ ?_
      refine Mine.nm (by assumption) rfl ?_
      refine cInt fun _ _ => ?_
      refine getsT (hT.isTup S.sub) (by decide) (by decide) rfl ?_
      refine wpAny_Constant_none ?_
      refine is_none ?_
      refine wpAny_truthy_bool ?_
      refine ite_pos (by rfl) ?_
      refine wpAny_execs_cons ?_
      refine wpAny_Return_some ?_
      refine callG O₀ S.sub n_Leaf (by kernel_rfl) ?_
      refine wpAny_items_cons ?_
      refine callG O₀ S.sub n_Token (by kernel_rfl) ?_
      refine wpAny_items_cons ?_
      refine Subscript_ ?_
      refine Mine.nm (by assumption) rfl ?_
      refine cInt fun _ _ => ?_
      refine getsT (hT.isTup S.sub) (by decide) (by decide) rfl ?_
      refine wpAny_items_cons ?_
      refine Subscript_ ?_
      refine Mine.nm (by assumption) rfl ?_
      refine cInt fun _ _ => ?_
      refine getsT (hT.isTup S.sub) (by decide) (by decide) rfl ?_
      refine wpAny_items_cons ?_
      refine wpAny_Constant_none ?_
      refine wpAny_items_nil ?_
      refine ⟨_, O₀, S.sub, token_ok O₀ S.sub ((r' _).le) fun x1 h1 tk1 g1 G1 T1 => ?_⟩
      replace S := S.after G1
      refine wpAny_items_nil ?_
      refine ⟨_, O₀.mono G1.le, S.sub, leaf_ok (O₀.mono G1.le) S.sub ((r' _).le) T1 fun v2 h2 tk2 g2 G2 I2 => ?_⟩
      exact ret _ _ _ _ (B (S.after G2)) I2
    | node nm cs =>
      simp only [IsPl] at hp
      obtain ⟨a, tk1, l, vs, rfl, hT, hl, hk⟩ := hp
      have hlen := IsPls.length _ hk
      have hz : cs.list.length ≤ 1000 := hw1.1
      refine wpAny_execs_cons ?_
      refine wpAny_If ?_
      refine wpAny_isTrue_Compare1 ?_
      refine Subscript_ ?_
      refine Mine.nm (by assumption) rfl ?_
      refine cInt fun _ _ => ?_
      refine getsT (hT.isTup S.sub) (by decide) (by decide) rfl ?_
      refine wpAny_Constant_none ?_
      refine is_none ?_
      refine wpAny_truthy_bool ?_
      refine ite_neg (by simp) ?_
      refine wpAny_execs_nil ?_
      refine wpAny_execs_cons ?_
      refine wpAny_Return_some ?_
      refine callG O₀ S.sub n_Tree (by kernel_rfl) ?_
      refine wpAny_items_cons ?_
      refine Subscript_ ?_
      refine Mine.nm (by assumption) rfl ?_
      refine cInt fun _ _ => ?_
      refine getsT (hT.isTup S.sub) (by decide) (by decide) rfl ?_
      refine wpAny_items_cons ?_
      refine cInt fun _ _ => ?_
      refine wpAny_items_cons ?_
      refine comp_start (cl := []) (by rfl) (by rfl) (by decide) ?_
      refine Subscript_ ?_
      refine Mine.nm (by assumption) rfl ?_
      refine cInt fun _ _ => ?_
      refine getsT (hT.isTup S.sub) (by decide) (by decide) rfl ?_
      refine comp_list S (r' _).1 (hl.plain S.sub) (by lia) (fun i ys g'' => All2 (IsOb g'') (cs.list.take i) ys) .nil (fun i ys g'' h => by have := h.length; simp at this; lia) (by decide) (by rfl) (by rfl) ?_ ?_
      · intro i v ys g₁ h' tk' C m' E' hi hj hle S'
        refine tests_nil (ite_pos rfl ?_)
        refine Exists.elim (IsPls.get _ hk hi) fun u hu => ?_
        have hmem : u ∈ cs.list := List.mem_of_getElem? hu.1
        refine callG (O₀.mono hle) S'.sub n_made (by kernel_rfl) ?_
        refine wpAny_items_cons ?_
        refine Mine.nm (by assumption) rfl ?_
        refine wpAny_items_nil ?_
        refine ⟨_, O₀.mono hle, S'.sub, ih u v g₁ (hle₀.trans hle) (by have := Fo.dep_lt (n := nm) hmem; lia) (Fo.wide_mem _ hw1.2 hmem) (IsPl.mono hle _ hu.2) (r' _) S'.sub fun r h'' tk'' g₂ G post => CAfter.of (S'.after G) ?_⟩
        rw [List.take_add_one, hu.1]
        exact (hj.mono fun t v h => IsOb.mono G.le t h).snoc post
      · intro D h'' tk'' g₁ g₂ ys hj hle1 hle2 hD S
        rw [hlen, List.take_length] at hj
        refine wpAny_items_nil ?_
        refine ⟨_, O₀.mono (hle1.trans hle2), S.sub, tree_ok (O₀.mono (hle1.trans hle2)) S.sub ((r' _).le) hD (by have := hj.length; lia) (IsObs.of _ (hj.mono fun t v h => IsOb.mono hle2 t h)) fun v2 h2 tk2 g2 G2 I2 => ?_⟩
        exact ret _ _ _ _ (B (S.after G2)) I2
end

def Tr.isLeaf : Tr → Bool
  | .leaf _ _ => true
  | .node _ _ => false
mutual
def Tr.rpre : Tr → List Tr
  | .leaf k t => [.leaf k t]
  | .node n cs => .node n cs :: cs.rpre
def Fo.rpre : Fo → List Tr
  | .nil => []
  | .cons t r => r.rpre ++ t.rpre
end
theorem Tr.rpre_eq (t : Tr) : t.rpre = t :: t.kids.rpre := by cases t <;> simp [Tr.rpre, Tr.kids, Fo.rpre]
theorem Fo.rpre_flat : ∀ f : Fo, f.rpre = f.list.reverse.flatMap Tr.rpre
  | .nil => rfl
  | .cons t r => by simp [Fo.rpre, Fo.list, Fo.rpre_flat r]
mutual
theorem Tr.rpre_len : ∀ t : Tr, t.rpre.length = t.size
  | .leaf k t => rfl
  | .node n cs => by simp [Tr.rpre, Tr.size, Fo.rpre_len cs]; lia
theorem Fo.rpre_len : ∀ f : Fo, f.rpre.length = f.size
  | .nil => rfl
  | .cons t r => by simp [Fo.rpre, Fo.size, Tr.rpre_len t, Fo.rpre_len r]; lia
end
def lsize (l : List Tr) : Nat := (l.map Tr.size).sum
theorem Fo.lsize : ∀ f : Fo, lsize f.list = f.size
  | .nil => rfl
  | .cons t r => by have := Fo.lsize r; simp only [Mine.lsize] at this; simp [Mine.lsize, Fo.list, Fo.size, this]
theorem Tr.size_eq (t : Tr) : t.size = 1 + t.kids.size := by cases t <;> simp [Tr.size, Tr.kids, Fo.size]
theorem Tr.size_pos (t : Tr) : 0 < t.size := by rw [Tr.size_eq]; lia
mutual
theorem Tr.size_le : ∀ t : Tr, t.wide → t.size ≤ 4 ^ t.dep
  | .leaf k t, _ => by simp [Tr.size, Tr.dep]
  | .node n cs, h => by
    simp only [Tr.wide] at h
    have h1 := Fo.size_le cs h.2.2
    have h2 : cs.list.length * 4 ^ cs.dep ≤ 3 * 4 ^ cs.dep := Nat.mul_le_mul_right _ h.2.1
    have h3 : 0 < 4 ^ cs.dep := Nat.pow_pos (by decide)
    simp only [Tr.size, Tr.dep]
    rw [Nat.add_comm 1 cs.dep, Nat.pow_succ]
    lia
theorem Fo.size_le : ∀ f : Fo, f.wide → f.size ≤ f.list.length * 4 ^ f.dep
  | .nil, _ => by simp [Fo.size]
  | .cons t r, h => by
    simp only [Fo.wide] at h
    have h1 := Tr.size_le t h.1
    have h2 := Fo.size_le r h.2
    simp only [Fo.size, Fo.list, Fo.dep, List.length_cons]
    have h3 : 4 ^ t.dep ≤ 4 ^ max t.dep r.dep := Nat.pow_le_pow_right (by decide) (Nat.le_max_left _ _)
    have h4 : 4 ^ r.dep ≤ 4 ^ max t.dep r.dep := Nat.pow_le_pow_right (by decide) (Nat.le_max_right _ _)
    have h5 : r.list.length * 4 ^ r.dep ≤ r.list.length * 4 ^ max t.dep r.dep := Nat.mul_le_mul_left _ h4
    rw [Nat.succ_mul]
    lia
end
def Tr.post (t : Tr) : List Tr := t.rpre.reverse
theorem Tr.post_eq (t : Tr) : t.post = t.kids.list.flatMap Tr.post ++ [t] := by
  unfold Tr.post
  rw [Tr.rpre_eq, Fo.rpre_flat, List.reverse_cons]
  congr 1
  rw [List.reverse_flatMap, List.reverse_reverse]
  rfl

section
variable {Γ : Wd} {A : Around} {E : Value → Shared → Prop} {s₀ : Shared} {hh : Heap} {tk : Nat} {g : View} {o : Og} {m : Nm} {mu : Mus} {t : Tr} {v : Value}
theorem isleaf_ok (O : Γ.On g) (hs : Sub g hh) (r : Rm A 1) (I : IsOb g t v) {Q : Value → Shared → Prop} (ret : ∀ h' tk', Grow [] hh g h' g → Q (.bool t.isLeaf) (sh s₀ h' tk')) : MOn Γ A E (Str.ofString "is_leaf") Q v (sh s₀ hh tk) := by
  cases t with
  | leaf k x =>
    simp only [IsOb] at I
    obtain ⟨a, es, l, t1, ta, rfl, I, S, _⟩ := I
    refine mOn 110 O hs I (by kernel_rfl) (by kernel_rfl) (by kernel_rfl) (by kernel_rfl) S.1 ?_
    refine enter (mu := []) (W := []) (binds := [(Str.ofString "self", .ref a)]) O hs r (by rfl) (by rfl) (BindsTo.of_eq (by rfl)) (by simp) (by simp) (by decide) (by rfl) fun h₁ tk L S B => ?_
    refine wpAny_execs_cons ?_
    refine wpAny_Return_some ?_
    refine wpAny_Constant_bool ?_
    exact ret _ _ (B S)
  | node n cs =>
    simp only [IsOb] at I
    obtain ⟨a, es, l, t1, vs, rfl, I, S, _⟩ := I
    refine mOn 42 O hs I (by kernel_rfl) (by kernel_rfl) (by kernel_rfl) (by kernel_rfl) S.1 ?_
    refine enter (mu := []) (W := []) (binds := [(Str.ofString "self", .ref a)]) O hs r (by rfl) (by rfl) (BindsTo.of_eq (by rfl)) (by simp) (by simp) (by decide) (by rfl) fun h₁ tk L S B => ?_
    refine wpAny_execs_cons ?_
    refine wpAny_Return_some ?_
    refine wpAny_Constant_bool ?_
    exact ret _ _ (B S)
theorem kidsV (O : Γ.On g) (hs : Sub g hh) (I : IsOb g t v) {Q : Value → Shared → Prop} (h : ∀ l vs tk', LV g l vs → All2 (IsOb g) t.kids.list vs → Q (.ref l) (sh s₀ hh tk')) : wpAny Γ.M A (getAttr v (Str.ofString "children") true) Q E (sh s₀ hh tk) := by
  cases t with
  | leaf k x =>
    simp only [IsOb] at I
    obtain ⟨a, es, l, t1, ta, rfl, I, S, _, b, c, _⟩ := I
    exact getV (s := sh s₀ hh tk) (attr := none) O hs I (by kernel_rfl) (by kernel_rfl) (by kernel_rfl) (by kernel_rfl) b rfl (h _ _ _ c .nil)
  | node n cs =>
    simp only [IsOb] at I
    obtain ⟨a, es, l, t1, vs, rfl, I, S, _, b, c, d⟩ := I
    exact getV (s := sh s₀ hh tk) (attr := none) O hs I (by kernel_rfl) (by kernel_rfl) (by kernel_rfl) (by kernel_rfl) b rfl (h _ _ _ c (IsObs.all _ d))
theorem head_ob (O : Γ.On g) (hs : Sub g hh) (r : Rm A 1) (hw : t.wide) (I : IsOb g t v) {Q : Value → Shared → Prop} (ret : ∀ tok h' tk', Grow [] hh g h' g → Q (.str t.head tok) (sh s₀ h' tk')) : MOn Γ A E (Str.ofString "head") Q v (sh s₀ hh tk) := by
  cases t with
  | leaf k x =>
    simp only [IsOb] at I
    simp only [Tr.wide] at hw
    obtain ⟨a, es, l, t1, ta, rfl, I, S, _, _, _, f, T⟩ := I
    refine mOn 117 O hs I (by kernel_rfl) (by kernel_rfl) (by kernel_rfl) (by kernel_rfl) S.2.1 ?_
    refine enter (mu := []) (W := []) (binds := [(Str.ofString "self", .ref a)]) O hs r (by rfl) (by rfl) (BindsTo.of_eq (by rfl)) (by simp) (by simp) (by decide) (by rfl) fun h₁ tk L S B => ?_
    have G := B S
    have tokA : ∀ {A' : Around} {E' : Value → Shared → Prop} {tk' : Nat} {Q' : Value → Shared → Prop}, (∀ tk', Q' (.ref ta) (sh s₀ h₁ tk')) → wpAny Γ.M A' (getAttr (.ref a) (Str.ofString "token") true) Q' E' (sh s₀ h₁ tk') := fun h =>
      getV (s := sh s₀ h₁ _) (attr := none) O S.sub I (by kernel_rfl) (by kernel_rfl) (by kernel_rfl) (by kernel_rfl) f rfl (h _)
    refine wpAny_execs_cons ?_
    refine wpAny_If ?_
    refine wpAny_isTrue_BoolOp ?_
    refine wpAny_allTrue_Or_cons ?_
    refine wpAny_isTrue_Compare1 ?_
    refine PyProof.Rows.Attribute_any_ ?_
    refine PyProof.Rows.Attribute_any_ ?_
    refine Mine.nm (by assumption) rfl ?_
    refine tokA fun _ => ?_
    refine tok_text O S.sub T fun _ _ => ?_
    refine PyProof.Rows.Attribute_any_ ?_
    refine PyProof.Rows.Attribute_any_ ?_
    refine Mine.nm (by assumption) rfl ?_
    refine tokA fun _ => ?_
    refine tok_kind O S.sub T fun _ _ => ?_
    refine PyProof.Rows.eq_str ?_
    refine wpAny_truthy_bool ?_
    by_cases h1 : x = k
    · refine ite_pos (by simpa using h1) ?_
      refine ite_pos rfl ?_
      refine wpAny_execs_cons ?_
      refine wpAny_Return_some ?_
      refine PyProof.Rows.Attribute_any_ ?_
      refine PyProof.Rows.Attribute_any_ ?_
      refine Mine.nm (by assumption) rfl ?_
      refine tokA fun _ => ?_
      refine tok_kind O S.sub T fun _ _ => ?_
      have e : (Tr.leaf k x).head = k := if_pos (.inl h1)
      exact e ▸ ret _ _ _ G
    · refine ite_neg (by simpa using h1) ?_
      refine wpAny_allTrue_Or_cons ?_
      refine wpAny_isTrue_Compare1 ?_
      refine PyProof.Rows.Attribute_any_ ?_
      refine PyProof.Rows.Attribute_any_ ?_
      refine Mine.nm (by assumption) rfl ?_
      refine tokA fun _ => ?_
      refine tok_text O S.sub T fun _ _ => ?_
      refine cStr fun _ _ => ?_
      refine PyProof.Rows.eq_str ?_
      refine wpAny_truthy_bool ?_
      by_cases h2 : x = Str.ofString ""
      · refine ite_pos (by simpa using h2) ?_
        refine ite_pos rfl ?_
        refine wpAny_execs_cons ?_
        refine wpAny_Return_some ?_
        refine PyProof.Rows.Attribute_any_ ?_
        refine PyProof.Rows.Attribute_any_ ?_
        refine Mine.nm (by assumption) rfl ?_
        refine tokA fun _ => ?_
        refine tok_kind O S.sub T fun _ _ => ?_
        have e : (Tr.leaf k x).head = k := if_pos (.inr h2)
        exact e ▸ ret _ _ _ G
      · refine ite_neg (by simpa using h2) ?_
        refine wpAny_allTrue_Or_nil ?_
        refine ite_neg (by simp) ?_
        refine wpAny_execs_nil ?_
        refine wpAny_execs_cons ?_
        refine wpAny_Return_some ?_
        refine wpAny_BinOp ?_
        refine wpAny_BinOp ?_
        refine PyProof.Rows.Attribute_any_ ?_
        refine PyProof.Rows.Attribute_any_ ?_
        refine Mine.nm (by assumption) rfl ?_
        refine tokA fun _ => ?_
        refine tok_kind O S.sub T fun _ _ => ?_
        refine cStr fun _ _ => ?_
        refine addS (by rw [sizeLine_eq, len_blank]; have := hw.1.1; lia) fun _ _ => ?_
        refine PyProof.Rows.Attribute_any_ ?_
        refine PyProof.Rows.Attribute_any_ ?_
        refine Mine.nm (by assumption) rfl ?_
        refine tokA fun _ => ?_
        refine tok_text O S.sub T fun _ _ => ?_
        skip
        refine addS (by rw [sizeLine_eq, str_app_len, len_blank]; have := hw.1.1; have := hw.2.1; lia) fun _ _ => ?_
        have e : (Tr.leaf k x).head = k ++ Str.ofString " " ++ x := if_neg (fun h => h.elim h1 h2)
        exact e ▸ ret _ _ _ G
  | node n cs =>
    simp only [IsOb] at I
    obtain ⟨a, es, l, t1, vs, rfl, I, S, f, _⟩ := I
    refine mOn 49 O hs I (by kernel_rfl) (by kernel_rfl) (by kernel_rfl) (by kernel_rfl) S.2.1 ?_
    refine enter (mu := []) (W := []) (binds := [(Str.ofString "self", .ref a)]) O hs r (by rfl) (by rfl) (BindsTo.of_eq (by rfl)) (by simp) (by simp) (by decide) (by rfl) fun h₁ tk L S B => ?_
    refine wpAny_execs_cons ?_
    refine wpAny_Return_some ?_
    refine PyProof.Rows.Attribute_any_ ?_
    refine Mine.nm (by assumption) rfl ?_
    refine getV (s := sh s₀ h₁ _) (attr := none) O S.sub I (by kernel_rfl) (by kernel_rfl) (by kernel_rfl) (by kernel_rfl) f rfl ?_
    exact ret _ _ _ (B S)
end

section
variable {Γ : Wd} {A : Around} {E : Value → Shared → Prop} {s₀ : Shared} {hh : Heap} {tk : Nat} {env : Env} {o : Og} {g g' : View} {m : Nm} {mu mu2 : Mus} {x : Str} {v : Value} {pos : Pos} {l : Addr} {vs ws : List Value}
theorem St.mu_eq (S : St o g m mu hh) (e : mu = mu2) : St o g m mu2 hh := e ▸ S
theorem popN {p apos cpos : Pos} {Q : Value → Shared → Prop} (S : St o g m mu hh) (hv : m x = some (.ref l)) (hl : hh.PlainList l (vs ++ [v]).toArray) (hz : vs.length ≤ 1000000)
    (h : ∀ h', h'.PlainList l vs.toArray → Heap.SameBut l hh h' → Q v (sh s₀ h' tk))
    (hbase : attributeBase (.Name x p) (Str.ofString "pop") env (eval (.Name x p) env) = eval (.Name x p) env := by rfl) (hline : (apos.endLine == cpos.line) = true := by rfl)
    (hL : env.locals = o.L := by rfl) (hk : env.scope.kind = .function := by rfl) (hlo : env.kindOf x = some .local := by rfl) (hd : (x == ("__debug__" : Str)) = false := by decide) :
    wpAny Γ.M A (eval (.Call (.Attribute (.Name x p) (Str.ofString "pop") apos) [] [] cpos) env) Q E (sh s₀ hh tk) :=
  popE (nm S hv ⟨l, vs, v, rfl, hl, hz, fun h' a b => h h' a b⟩ hL hk hlo hd) hbase hline
def AppOn (l : Addr) (Q : Flow → Shared → Prop) (v : Value) (s₂ : Shared) : Prop := ∃ vs : List Value, s₂.heap.PlainList l vs.toArray ∧ vs.length ≤ 1000000 ∧ ∀ h', h'.PlainList l (vs ++ [v]).toArray → Heap.SameBut l s₂.heap h' → Q .next { s₂ with heap := h' }
theorem appOn {Q : Flow → Shared → Prop} (hl : hh.PlainList l vs.toArray) (hz : vs.length ≤ 1000000) (h : ∀ h', h'.PlainList l (vs ++ [v]).toArray → Heap.SameBut l hh h' → Q .next (sh s₀ h' tk)) : AppOn l Q v (sh s₀ hh tk) := ⟨vs, hl, hz, fun h' a b => h h' a b⟩
theorem appendN {e : Expr} {p apos cpos : Pos} {Q : Flow → Shared → Prop} (S : St o g m mu hh) (hv : m x = some (.ref l)) (hl : hh.PlainList l ws.toArray)
    (h : wpAny Γ.M A (eval e env) (AppOn l Q) E (sh s₀ hh tk))
    (hbase : attributeBase (.Name x p) (Str.ofString "append") env (eval (.Name x p) env) = eval (.Name x p) env := by rfl)
    (hfew : ((backTo cpos (starEach [e] env)).all (fun x => !x.1) && (backToKw cpos (keywordEach [] env)).all (fun x => x.1.isSome)
      && decide (([e] : List Expr).length + ([] : List Keyword).length + (if ([] : List Keyword).isEmpty then 0 else 1) < 30)) = true := by rfl)
    (hline : (apos.endLine == cpos.line) = true := by rfl) (he : starEach [e] env = [(false, eval e env)] := by rfl)
    (hi : interactive env = false := by rfl) (hs : swapsWith (.Call (.Attribute (.Name x p) (Str.ofString "append") apos) [e] [] cpos) none pos.line env = pure false := by rfl)
    (hL : env.locals = o.L := by rfl) (hk : env.scope.kind = .function := by rfl) (hlo : env.kindOf x = some .local := by rfl) (hd : (x == ("__debug__" : Str)) = false := by decide) :
    wpAny Γ.M A (exec (.Expr (.Call (.Attribute (.Name x p) (Str.ofString "append") apos) [e] [] cpos) pos) env) Q E (sh s₀ hh tk) :=
  appendS (nm S hv ⟨l, ws.toArray, rfl, hl, h⟩ hL hk hlo hd) hbase hfew hline he hi hs
/-- a list against an empty one -/
theorem neNil {a b : Addr} {Q : Value → Shared → Prop} (ha : hh.PlainList a vs.toArray) (hb : hh.PlainList b ([] : List Value).toArray) (hu : A.units < cLine) (h : Q (.bool (!vs.isEmpty)) (sh s₀ hh tk)) :
    wpAny Γ.M A (compareOp .NotEq (.ref a) (.ref b)) Q E (sh s₀ hh tk) := by
  show wpAny Γ.M A (richCompare .NotEq (.ref a) (.ref b)) Q E (sh s₀ hh tk)
  have ha' : (sh s₀ hh tk).heap.IsList a vs.toArray := ha.isList
  have hb' : (sh s₀ hh tk).heap.IsList b ([] : List Value).toArray := hb.isList
  cases vs with
  | nil => exact SeqAt.RcNeAt.lists (e := fun _ => true) ha' hb' rfl hu (fun j h1 _ => by simp at h1) _ _ _ _ h
  | cons v r => exact SeqAt.RcNeAt.lists_lengths ha' hb' (by simp) hu _ _ _ _ h
theorem revN {k : Nat} {p p1 p2 p3 : Pos} {Q : Value → Shared → Prop} (S : St o g m mu hh) (hv : m x = some (.ref l)) (hl : hh.PlainList l vs.toArray) (hz : vs.length ≤ 1000000)
    (h : ∀ l' h' tk' g', Le g g' → LV g' l' vs.reverse → St o g' m mu h' → Q (.ref l') (sh s₀ h' tk'))
    (hL : env.locals = o.L := by rfl) (hk : env.scope.kind = .function := by rfl) (hlo : env.kindOf x = some .local := by rfl) (hd : (x == ("__debug__" : Str)) = false := by decide) :
    wpAny Γ.M A (eval (.Subscript (.Name x p) (.Slice none none (some (.UnaryOp .USub (.Constant (.int 1) k p1) p2)) p3) pos) env) Q E (sh s₀ hh tk) := by
  refine Subscript_ (nm S hv (wpAny_Slice (wpAny_pure (wpAny_pure (wpAny_UnaryOp (cInt fun t tk1 => negI fun t2 tk2 => ?_))))) hL hk hlo hd)
  have hl1 : (sh s₀ hh tk2).heap.IsList l vs.toArray := hl.isList
  refine subscriptTail_ops (Heap.IsList.typeIs (s := { sh s₀ hh tk2 with heap := (sh s₀ hh tk2).heap.push { cls := .type "slice", data := .fields #[.none, .none, .int (-1) t2] } }) (hl1.push _)) list_getitem_lookup
    (wpAny_getItem_list_slice (hl1.push _) (Heap.IsSliceOf.new ..) .none .none (.int (-1) t2) (by decide) ?_ (by rw [sizeLine_eq]; simp; lia)) (by with_unfolding_all rfl) (by intro _; rfl)
  rw [krv_pick]
  have S1 := S.junk { cls := .type "slice", data := .fields #[.none, .none, .int (-1) t2] }
  exact h _ _ _ _ S1.le_push ⟨0, View.set_self ..⟩ (S1.allocImm (ob := lst vs.reverse 0) rfl)
end
theorem All2.unsnoc {α : Type} {R : α → Value → Prop} : ∀ {ts : List α} {vs : List Value} {v : Value}, All2 R ts (vs ++ [v]) → ∃ ts' t, ts = ts' ++ [t] ∧ All2 R ts' vs ∧ R t v
  | _, [], v, h => by cases h with | cons a b => cases b; exact ⟨[], _, rfl, .nil, a⟩
  | _, w :: r, v, h => by
    cases h with
    | cons a b =>
      obtain ⟨ts', t, e, x, y⟩ := All2.unsnoc b
      exact ⟨_ :: ts', t, by rw [e]; rfl, .cons a x, y⟩
theorem All2.reverse {α : Type} {R : α → Value → Prop} {ts : List α} {vs : List Value} (x : All2 R ts vs) : All2 R ts.reverse vs.reverse := by
  induction x with
  | nil => exact .nil
  | cons a _ ih => rw [List.reverse_cons, List.reverse_cons]; exact ih.snoc a
theorem flat_len : ∀ l : List Tr, (l.reverse.flatMap Tr.rpre).length = lsize l
  | [] => rfl
  | t :: r => by have := flat_len r; simp only [lsize] at this; simp [lsize, Tr.rpre_len, this]; lia
theorem lsize_append (a b : List Tr) : lsize (a ++ b) = lsize a + lsize b := by simp [lsize]
theorem len_le_lsize : ∀ l : List Tr, l.length ≤ lsize l
  | [] => Nat.zero_le _
  | t :: r => by have := len_le_lsize r; simp only [lsize] at this; have := Tr.size_pos t; simp [lsize]; lia
theorem nil_or_snoc (l : List Value) : l = [] ∨ ∃ r v, l = r ++ [v] := by
  rcases List.eq_nil_or_concat l with h | ⟨r, v, h⟩
  · exact .inl h
  · exact .inr ⟨r, v, by simpa using h⟩

def PJ (t : Tr) (la fa : Addr) (k : Nat) (g : View) (m : Nm) (mu : Mus) : Prop :=
  m (Str.ofString "line") = some (.ref la) ∧ m (Str.ofString "found") = some (.ref fa) ∧ ∃ ln lv fo fv, mu = [(la, lv), (fa, fv)] ∧ All2 (IsOb g) ln lv ∧ All2 (IsOb g) fo fv ∧ fo ++ ln.reverse.flatMap Tr.rpre = t.rpre ∧ k = lsize ln
section
variable {Γ : Wd} {g : View}
theorem postorder_ok (O : Γ.On g) {A : Around} {s₀ : Shared} {hh : Heap} {tk : Nat} {Q E : Value → Shared → Prop} {t : Tr} {v : Value} (r : Rm A 2) (hs : Sub g hh) (I : IsOb g t v) (hz : t.size ≤ 1000)
    (ret : ∀ l vs h' tk' g', Grow [] hh g h' g' → LV g' l vs → All2 (IsOb g') t.post vs → Q (.ref l) (sh s₀ h' tk')) :
    wpAny Γ.M A (call (.ref 129) [v]) Q E (sh s₀ hh tk) := by
  refine enter (mu := []) (W := []) (binds := [(Str.ofString "tree", v)]) O hs r (by rfl) (by rfl) (BindsTo.of_eq (by rfl)) (by simp) (by simp) (by decide) (by rfl) fun h₁ tk L S B => ?_
  have r' : ∀ env, Rm (A.deeper env) 1 := fun env => r.deeper
  refine wpAny_execs_cons ?_
  refine wpAny_Assign_Name ?_
  refine PyProof.Rows.List_ ?_
  refine wpAny_items_nil ?_
  refine newListM S (by simp) fun fa h2 S => stor S fun h2 tk2 S => ?_
  refine wpAny_execs_cons ?_
  refine wpAny_Assign_Name ?_
  refine PyProof.Rows.List_ ?_
  refine wpAny_items_cons ?_
  refine Mine.nm (by assumption) rfl ?_
  refine wpAny_items_nil ?_
  refine newListM S (by simp) fun la h2 S => stor S fun h2 tk2 S => ?_
  refine wpAny_execs_cons (while_walk S (PJ t la fa) (fun g m mu => PJ t la fa 0 g m mu) (lsize [t]) ⟨rfl, rfl, [t], [v], [], [], rfl, .cons I .nil, .nil, by simp, rfl⟩ ?_ ?_)
  · intro k g1 m1 mu1 h3 tk3 E' hj hle S1
    have O1 := O.mono hle
    have hml := hj.1
    have hmf := hj.2.1
    refine Exists.elim hj.2.2 fun ln e => Exists.elim e fun lv e => Exists.elim e fun fo e => Exists.elim e fun fv hj => ?_
    have S2 := S1.mu_eq hj.1
    have hsize : fo.length + lsize ln = t.size := by
      have := congrArg List.length hj.2.2.2.1
      rw [List.length_append, flat_len, Tr.rpre_len] at this; exact this
    have hfl := hj.2.2.1.length
    have hll := hj.2.1.length
    have hl2 := len_le_lsize ln
    refine wpAny_isTrue_Compare1 ?_
    refine nm S2 hml ?_
    refine PyProof.Rows.List_ ?_
    refine wpAny_items_nil ?_
    refine newListJ S2 (by simp) fun l0 h4 S2 hl0 => ?_
    refine neNil S2.mu0 hl0 (r' _).units ?_
    refine wpAny_truthy_bool ?_
    refine (nil_or_snoc lv).elim (fun hlv => ?_) fun hlv => ?_
    · refine ite_neg (by simp [hlv]) ?_
      have hln : ln = [] := List.length_eq_zero_iff.mp (by rw [← hll, hlv]; rfl)
      exact FAfter.of S2 ⟨hml, hmf, ln, lv, fo, fv, rfl, hj.2.1, hj.2.2.1, hj.2.2.2.1, by rw [hln]; rfl⟩
    · refine Exists.elim hlv fun lv' e => Exists.elim e fun x hlv => ?_
      refine ite_pos (by simp [hlv]) ?_
      refine Exists.elim (All2.unsnoc (hlv ▸ hj.2.1)) fun ln' e => Exists.elim e fun u hu => ?_
      have hk : lsize ln = lsize ln' + u.size := by rw [hu.1, lsize_append]; simp [lsize]
      have hus := Tr.size_eq u
      have hlen' := hu.2.1.length
      have hl3 := len_le_lsize ln'
      have hks := Fo.lsize u.kids
      have hkl := len_le_lsize u.kids.list
      have hlast : u.rpre ++ ln'.reverse.flatMap Tr.rpre = ln.reverse.flatMap Tr.rpre := by rw [hu.1]; simp
      refine wpAny_execs_cons ?_
      refine wpAny_Assign_Name ?_
      refine popN S2 hml (by rw [← hlv]; exact S2.mu0) (by lia) fun h5 hl5 hs5 => ?_
      have S3 := S2.upd0 hl5 hs5
      refine stor S3 fun h6 tk6 S3 => ?_
      refine wpAny_execs_cons (appendN S3 hmf S3.mu1 ?_)
      refine Mine.nm (by assumption) rfl ?_
      refine appOn S3.mu1 (by lia) fun h7 hl7 hs7 => ?_
      have S4 := S3.upd1 hl7 hs7
      refine wpAny_execs_cons (for_start ?_)
      refine PyProof.Rows.Attribute_any_ ?_
      refine Mine.nm (by assumption) rfl ?_
      refine kidsV O1 S4.sub hu.2.2 fun lk vk tk8 hlk hak => ?_
      have hvk := hak.length
      refine for_list S4 (r' _).1 hlk (fun i g2 m2 mu2 => m2 (Str.ofString "line") = some (.ref la) ∧ m2 (Str.ofString "found") = some (.ref fa) ∧ ∃ lv2, mu2 = [(la, lv2), (fa, fv ++ [x])] ∧ All2 (IsOb g2) (ln' ++ u.kids.list.take i) lv2) ⟨hml, hmf, lv', rfl, by simpa using hu.2.1⟩ ?_ ?_ (hW := List.mem_cons_self)
      · intro i w g3 m3 mu3 h8 tk8 E3 hiw hj3 hle3 S5
        refine Exists.elim hj3.2.2 fun lv2 hj4 => ?_
        have S6 := S5.mu_eq hj4.1
        have hlen2 := hj4.2.length
        have hlt : (List.take i u.kids.list).length ≤ u.kids.list.length := by rw [List.length_take]; omega
        rw [List.length_append] at hlen2
        refine Exists.elim (All2.get hak hiw) fun w' hw' => ?_
        refine wpAny_execs_cons (appendN S6 hj3.1 S6.mu0 ?_)
        refine Mine.nm (by assumption) rfl ?_
        refine appOn S6.mu0 (by lia) fun h9 hl9 hs9 => ?_
        have S7 := S6.upd0 hl9 hs9
        refine wpAny_execs_nil ?_
        refine ⟨rfl, FAfter.of S7 ⟨hj3.1, hj3.2.1, _, rfl, ?_⟩⟩
        rw [List.take_add_one, hw'.1]
        have := hj4.2.snoc (IsOb.mono hle3 _ hw'.2)
        simpa [List.append_assoc] using this
      · intro h8 tk8 g3 m3 mu3 hj3 hle3 S5
        refine Exists.elim hj3.2.2 fun lv2 hj4 => ?_
        refine wpAny_execs_nil ?_
        refine ⟨rfl, lsize (ln' ++ u.kids.list), ?_, FAfter.of S5 ⟨hj3.1, hj3.2.1, ln' ++ u.kids.list, lv2, fo ++ [u], fv ++ [x], hj4.1, ?_, ?_, ?_, rfl⟩⟩
        · rw [hj.2.2.2.2, hk, lsize_append, hks]; lia
        · have := hj4.2; rwa [hvk, List.take_length] at this
        · exact (hj.2.2.1.mono fun t v h => IsOb.mono hle3 t h).snoc (IsOb.mono hle3 _ hu.2.2)
        · rw [← hj.2.2.2.1, ← hlast, Tr.rpre_eq, Fo.rpre_flat]; simp
  · intro h3 tk3 g1 m1 mu1 hj hle S1
    refine Exists.elim hj.2.2 fun ln e => Exists.elim e fun lv e => Exists.elim e fun fo e => Exists.elim e fun fv hj2 => ?_
    have S2 := S1.mu_eq hj2.1
    have hln : ln = [] := by
      have := hj2.2.2.2.2
      cases ln with
      | nil => rfl
      | cons a b => have h1 := Tr.size_pos a; simp [lsize] at this; lia
    have hfo : fo = t.rpre := by have := hj2.2.2.2.1; rw [hln] at this; simpa using this
    have hlen := hj2.2.2.1.length
    have hrl := Tr.rpre_len t
    refine wpAny_execs_cons ?_
    refine wpAny_Return_some ?_
    refine revN S2 hj.2.1 S2.mu1 (by rw [hlen, hfo, hrl]; lia) fun l' h4 tk4 g2 hle2 hl4 S3 => ?_
    refine ret _ _ _ _ _ (B S3) hl4 ?_
    have h5 : All2 (IsOb g2) fo fv := hj2.2.2.1.mono fun t v h => IsOb.mono hle2 t h
    rw [hfo] at h5
    exact h5.reverse
end

-- rows as pairs of a depth and a head
mutual
def Tr.flat : Nat → Tr → List (Nat × Str)
  | d, .leaf k t => [(d, (Tr.leaf k t).head)]
  | d, .node n cs => (d, n) :: Fo.flat (d + 1) cs
def Fo.flat : Nat → Fo → List (Nat × Str)
  | _, .nil => []
  | d, .cons t r => Tr.flat d t ++ Fo.flat d r
end
theorem Tr.flat_eq (d : Nat) (t : Tr) : t.flat d = (d, t.head) :: t.kids.flat (d + 1) := by cases t <;> simp [Tr.flat, Tr.kids, Fo.flat, Tr.head]
theorem Fo.flat_list (d : Nat) : ∀ f : Fo, f.flat d = f.list.flatMap (Tr.flat d)
  | .nil => rfl
  | .cons t r => by simp [Fo.flat, Fo.list, Fo.flat_list d r]
mutual
theorem Tr.flat_len : ∀ (d : Nat) (t : Tr), (t.flat d).length = t.size
  | d, .leaf k t => rfl
  | d, .node n cs => by simp [Tr.flat, Tr.size, Fo.flat_len (d + 1) cs]; lia
theorem Fo.flat_len : ∀ (d : Nat) (f : Fo), (f.flat d).length = f.size
  | d, .nil => rfl
  | d, .cons t r => by simp [Fo.flat, Fo.size, Tr.flat_len d t, Fo.flat_len d r]
end
def okHead (h : Str) : Prop := h.length ≤ 41 ∧ (∀ c ∈ h.cps.toList, c ≠ 10) ∧ ∃ c r, h.cps.toList = c :: r ∧ c ≠ 32
theorem cps_app (a b : Str) : (a ++ b).cps.toList = a.cps.toList ++ b.cps.toList := by
  show (a.cps ++ b.cps).toList = _
  simp
theorem len_cps (a : Str) : a.length = a.cps.toList.length := by show a.cps.size = _; simp
theorem str_ext {a b : Str} (h : a.cps.toList = b.cps.toList) : a = b := by
  cases a; cases b; congr 1; exact Array.toList_inj.mp h
theorem cps_blank : (Str.ofString " ").cps.toList = [32] := by decide +kernel
theorem Tr.head_ok {t : Tr} (h : t.wide) : okHead t.head := by
  cases t with
  | leaf k x =>
    simp only [Tr.wide] at h
    obtain ⟨⟨h1, h2, c, r, h3, h4⟩, h5, h6⟩ := h
    simp only [Tr.head]
    split
    · exact ⟨by lia, h2, c, r, h3, h4⟩
    · refine ⟨by rw [str_app_len, str_app_len, len_blank]; lia, fun d hd => ?_, c, r ++ [32] ++ x.cps.toList, by rw [cps_app, cps_app, h3, cps_blank]; simp, h4⟩
      rw [cps_app, cps_app, cps_blank] at hd
      simp only [List.mem_append, List.mem_singleton] at hd
      rcases hd with (hd | hd) | hd
      · exact h2 d hd
      · lia
      · exact h6 d hd
  | node n cs =>
    simp only [Tr.wide] at h
    obtain ⟨⟨h1, h2, h3⟩, _⟩ := h
    exact ⟨by simp only [Tr.head]; lia, h2, h3⟩
mutual
theorem Tr.flat_mem : ∀ (d : Nat) (t : Tr), t.wide → ∀ p ∈ t.flat d, d ≤ p.1 ∧ p.1 ≤ d + t.dep ∧ okHead p.2
  | d, .leaf k t, h, p, hp => by
    simp only [Tr.flat, List.mem_singleton] at hp
    subst hp
    exact ⟨Nat.le_refl _, Nat.le_add_right _ _, Tr.head_ok h⟩
  | d, .node n cs, h, p, hp => by
    simp only [Tr.flat, List.mem_cons] at hp
    rcases hp with rfl | hp
    · exact ⟨Nat.le_refl _, Nat.le_add_right _ _, Tr.head_ok h⟩
    · have hw := h
      simp only [Tr.wide] at hw
      have := Fo.flat_mem (d + 1) cs hw.2.2 p hp
      simp only [Tr.dep]
      exact ⟨by lia, by lia, this.2.2⟩
theorem Fo.flat_mem : ∀ (d : Nat) (f : Fo), f.wide → ∀ p ∈ f.flat d, d ≤ p.1 ∧ p.1 ≤ d + f.dep ∧ okHead p.2
  | d, .nil, h, p, hp => by simp [Fo.flat] at hp
  | d, .cons t r, h, p, hp => by
    simp only [Fo.wide] at h
    simp only [Fo.flat, List.mem_append] at hp
    simp only [Fo.dep]
    rcases hp with hp | hp
    · have := Tr.flat_mem d t h.1 p hp; exact ⟨this.1, by lia, this.2.2⟩
    · have := Fo.flat_mem d r h.2 p hp; exact ⟨this.1, by lia, this.2.2⟩
end
/-- '  ' * d -/
def ind (d : Nat) : Str := Txt.mul (Str.ofString "  ") (d : Int)
theorem cps_two : (Str.ofString "  ").cps.toList = [32, 32] := by decide +kernel
theorem foldl_app (x : Array Nat) : ∀ (n : Nat) (acc : Array Nat), ((List.replicate n x).foldl (· ++ ·) acc).toList = acc.toList ++ (List.replicate n x.toList).flatten
  | 0, acc => by simp
  | n + 1, acc => by rw [List.replicate_succ, List.foldl_cons, foldl_app x n (acc ++ x)]; simp [List.replicate_succ]
theorem ind_cps (d : Nat) : (ind d).cps.toList = List.replicate (2 * d) 32 := by
  have rep : ∀ n : Nat, (List.replicate n [32, 32]).flatten = List.replicate (2 * n) 32 := fun n => by
    induction n with
    | zero => rfl
    | succ n ih => rw [List.replicate_succ, List.flatten_cons, ih, show 2 * (n + 1) = 2 * n + 1 + 1 by lia]; rfl
  unfold ind Txt.mul
  by_cases h1 : (d : Int) < 1
  · rw [if_pos h1]
    have : d = 0 := by lia
    subst this
    rfl
  · rw [if_neg h1]
    by_cases h2 : (((d : Int) == 1) || (Str.ofString "  ").length == 0) = true
    · rw [if_pos h2]
      have h3 : (Str.ofString "  ").length = 2 := by decide +kernel
      rw [h3] at h2
      have : (d : Int) = 1 := by simpa using h2
      have : d = 1 := by lia
      subst this
      exact cps_two
    · rw [if_neg h2]
      show ((List.replicate (d : Int).toNat (Str.ofString "  ").cps).foldl (· ++ ·) #[]).toList = _
      rw [foldl_app, cps_two, Int.toNat_natCast]
      simpa using rep d
theorem ind_len (d : Nat) : (ind d).length = 2 * d := by rw [len_cps, ind_cps, List.length_replicate]
theorem ind_ok {d : Nat} (h : d ≤ 1000) : MulOk (Str.ofString "  ") (d : Int) := by
  have h3 : (Str.ofString "  ").length = 2 := by decide +kernel
  refine ⟨?_, fun h1 _ => ?_, fun h1 _ => ?_⟩
  · have a : ¬ ((d : Int) < -(2 ^ 63 : Int)) := by lia
    have b : ¬ ((d : Int) ≥ 2 ^ 63) := by lia
    simp only [a, b, decide_false, Bool.or_false]
  · rw [h3]
    have : (d : Int) ≤ 1000 := by lia
    intro hc
    have h4 : ((2 : Nat) : Int) ≤ (2 ^ 63 - 1) / (d : Int) := by
      refine Int.le_ediv_of_mul_le (by omega) ?_
      lia
    lia
  · rw [h3]
    have e : (2 * (d : Int).toNat) ≤ 2000 := by rw [Int.toNat_natCast]; lia
    show decide (2 * (d : Int).toNat > sizeLine) = false
    rw [decide_eq_false_iff_not, sizeLine_eq]
    lia
def rowOf (p : Nat × Str) : Str := ind p.1 ++ p.2
theorem rowOf_cps (p : Nat × Str) : (rowOf p).cps.toList = List.replicate (2 * p.1) 32 ++ p.2.cps.toList := by unfold rowOf; rw [cps_app, ind_cps]
theorem rowOf_len (p : Nat × Str) : (rowOf p).length = 2 * p.1 + p.2.length := by unfold rowOf; rw [str_app_len, ind_len]
/-- the text of some rows, and its rows again -/
def lineFeed : Str := Str.ofString "\n"
theorem lf_cps : lineFeed.cps.toList = [10] := by decide +kernel
theorem lf_eq : lineFeed = ⟨#[10]⟩ := by decide +kernel
def joinL : List (List Nat) → List Nat
  | [] => []
  | [x] => x
  | x :: y :: r => x ++ 10 :: joinL (y :: r)
theorem join_cps : ∀ l : List Str, (Str.join lineFeed l).cps.toList = joinL (l.map fun s => s.cps.toList)
  | [] => rfl
  | [x] => rfl
  | x :: y :: r => by
    show (x ++ lineFeed ++ Str.join lineFeed (y :: r)).cps.toList = _
    rw [cps_app, cps_app, lf_cps, join_cps (y :: r)]
    simp [joinL]
theorem cut_at {a b c d : List Nat} (ha : 10 ∉ a) (hb : 10 ∉ b) (h : a ++ 10 :: c = b ++ 10 :: d) : a = b ∧ c = d := by
  induction a generalizing b with
  | nil =>
    cases b with
    | nil => simpa using h
    | cons x b => simp at h; rw [← h.1] at hb; simp at hb
  | cons x a ih =>
    cases b with
    | nil => simp at h; rw [h.1] at ha; simp at ha
    | cons y b =>
      simp at h ha hb
      have := ih ha.2 hb.2 h.2
      exact ⟨by rw [h.1, this.1], this.2⟩
theorem joinL_inj : ∀ {A B : List (List Nat)}, A ≠ [] → B ≠ [] → (∀ a ∈ A, 10 ∉ a) → (∀ b ∈ B, 10 ∉ b) → joinL A = joinL B → A = B
  | [], _, h, _, _, _, _ => absurd rfl h
  | _, [], _, h, _, _, _ => absurd rfl h
  | [a], [b], _, _, _, _, h => by simp [joinL] at h; rw [h]
  | [a], b :: b' :: r, _, _, ha, _, h => by
    simp only [joinL] at h
    have := ha a (by simp)
    rw [h] at this; simp at this
  | a :: a' :: r, [b], _, _, _, hb, h => by
    simp only [joinL] at h
    have := hb b (by simp)
    rw [← h] at this; simp at this
  | a :: a' :: r, b :: b' :: q, _, _, ha, hb, h => by
    simp only [joinL] at h
    obtain ⟨h1, h2⟩ := cut_at (ha a (by simp)) (hb b (by simp)) h
    have := joinL_inj (by simp) (by simp) (fun x hx => ha x (by simp [hx])) (fun x hx => hb x (by simp [hx])) h2
    rw [h1, this]
theorem map_cps_inj : ∀ {A B : List Str}, (A.map fun s => s.cps.toList) = (B.map fun s => s.cps.toList) → A = B
  | [], [], _ => rfl
  | [], b :: B, h => by simp at h
  | a :: A, [], h => by simp at h
  | a :: A, b :: B, h => by
    simp only [List.map_cons, List.cons.injEq] at h
    rw [str_ext h.1, map_cps_inj h.2]
theorem split_join {l : List Str} (h0 : l ≠ []) (h : ∀ s ∈ l, 10 ∉ s.cps.toList) : Txt.split (Str.join lineFeed l) lineFeed = l := by
  have e := StrLaws.join_split (Str.join lineFeed l) lineFeed
  have hp := split_pos (Str.join lineFeed l) lineFeed
  have hf : ∀ p ∈ Txt.split (Str.join lineFeed l) lineFeed, 10 ∉ p.cps.toList := by
    rw [lf_eq]; exact StrLaws.split_free _ 10
  generalize Txt.split (Str.join lineFeed l) lineFeed = B at e hp hf
  have e2 := congrArg (fun s => s.cps.toList) e
  simp only [join_cps] at e2
  refine map_cps_inj (joinL_inj (by intro hB; have : B = [] := by simpa using hB
                                    rw [this] at hp; simp at hp) (by simpa using h0) ?_ ?_ e2)
  · intro a ha
    obtain ⟨s, hs, rfl⟩ := List.mem_map.mp ha
    exact hf s hs
  · intro a ha
    obtain ⟨s, hs, rfl⟩ := List.mem_map.mp ha
    exact h s hs

section
variable {Γ : Wd} {A : Around} {E : Value → Shared → Prop} {s₀ : Shared} {hh : Heap} {tk : Nat} {env : Env} {o : Og} {g g' : View} {m : Nm} {mu mu2 : Mus} {x : Str} {v : Value} {pos : Pos} {l : Addr} {vs ws : List Value}
theorem mulS {d : Nat} {t u : Tok} {Q : Value → Shared → Prop} (hd : d ≤ 1000) (h : ∀ t tk', Q (.str (ind d) t) (sh s₀ hh tk')) : wpAny Γ.M A (binaryOp .Mult (.str (Str.ofString "  ") t) (.int d u)) Q E (sh s₀ hh tk) := SB.mul (ind_ok hd) fun t' k => h t' k
theorem unpack2 {x1 x2 : Str} {p1 p2 tpos : Pos} {k : Nat} {a : Addr} {v1 v2 : Value} {Q : Unit → Shared → Prop} (S : St o g m mu hh) (hA : A.handled = none) (ht : TV g a [v1, v2])
    (h : ∀ h' tk', St o g (fun y => if y = x2 then some v2 else if y = x1 then some v1 else m y) mu h' → Q () (sh s₀ h' tk')) (hW : o.L ∈ o.W := by exact List.mem_cons_self) (hL : env.locals = o.L := by rfl)
    (hl1 : env.kindOf x1 = some .local := by rfl) (hl2 : env.kindOf x2 = some .local := by rfl) (hp : (env.scope.kind == .class || (env.scope.kind == .module && env.locals != env.globals)) = false := by rfl) :
    wpAny Γ.M A (assign (.Tuple [.Name x1 p1, .Name x2 p2] k tpos) env (.ref a)) Q E (sh s₀ hh tk) := by
  refine assign_Tuple_tuple (s := sh s₀ hh tk) hA (ht.isTup S.sub) (by rfl) (by rfl) fun h' he => ?_
  have hk : ∀ b ob, hh.get? b = some ob → h'.get? b = some ob := fun b ob e => he b ob (Nat.ne_of_lt (Heap.lt_size e)) e
  have S1 := S.after (keepsGrow S.sub hk)
  show wpAny Γ.M A (assignInOrder [assign (.Name x1 p1) env, assign (.Name x2 p2) env] [v1, v2]) Q E (sh s₀ h' tk)
  refine PyProof.Rows.assignInOrder_cons (wpAny_assign_Name (stor S1 (fun h2 tk2 S2 => ?_) hW hL hl1 hp))
  refine PyProof.Rows.assignInOrder_cons (wpAny_assign_Name (stor S2 (fun h3 tk3 S3 => ?_) hW hL hl2 hp))
  exact PyProof.Rows.assignInOrder_nil (h h3 tk3 S3)
/-- a method of a str with one argument -/
theorem strM1 {name : Str} {id : String} {s : Shared} {ob e : Expr} {apos cpos : Pos} {Q : Value → Shared → Prop} (slot : Slot "str" name id) (hty : typeOf (.builtin id) = pure (.type "method_descriptor"))
    (h : wpAny Γ.M A (eval ob env) (fun ov s₁ => ∃ x t, ov = .str x t ∧ wpAny Γ.M A (eval e env) (fun v s₂ => wpAny Γ.M A (call (.builtin id) [.str x t, v]) Q E s₂) E s₁) E s)
    (hbase : attributeBase ob name env (eval ob env) = eval ob env := by rfl)
    (hfew : ((backTo cpos (starEach [e] env)).all (fun x => !x.1) && (backToKw cpos (keywordEach [] env)).all (fun x => x.1.isSome)
      && decide (([e] : List Expr).length + ([] : List Keyword).length + (if ([] : List Keyword).isEmpty then 0 else 1) < 30)) = true := by rfl)
    (hline : (apos.endLine == cpos.line) = true := by rfl) (he : starEach [e] env = [(false, eval e env)] := by rfl) :
    wpAny Γ.M A (eval (.Call (.Attribute ob name apos) [e] [] cpos) env) Q E s := by
  refine wpAny_Call_method hbase hfew hline F.plainAttrs_str slot hty (wpAny_mono h (fun ov s₁ h₁ => ?_) fun _ _ e => e)
  obtain ⟨x, t, rfl, h₁⟩ := h₁
  refine ⟨typeIs_str _ _ _, fun a ea => (by cases ea), ?_⟩
  rw [he]
  show wpAny Γ.M A (callWith cpos (.builtin id) [.str x t] [(false, eval e env)] []) Q E s₁
  exact Calls.callWith_builtin rfl (evalArgs_plain (Calls.spliced_cons (wpAny_mono h₁ (fun v s₂ h₂ => Calls.spliced_nil h₂) fun _ _ e => e)))
theorem splitS {x y : Str} {t u : Tok} {Q : Value → Shared → Prop} (S : St o g m mu hh) (hy : (y.length == 0) = false) (hsz : x.length + 2 ≤ sizeLine)
    (h : ∀ l' lx h' tk' g', lx.map (·.1) = Txt.split x y → Le g g' → LV g' l' (strValues lx) → St o g' m mu h' → Q (.ref l') (sh s₀ h' tk')) : wpAny Γ.M A (call (.builtin "str.split") [.str x t, .str y u]) Q E (sh s₀ hh tk) := by
  have hn : (Builtin.Str.partsBetween x (Builtin.Str.occurrences x y 0 x.length (x.length + 1)) y.length).length ≤ sizeLine := by
    have e1 := StrLaws.occ_length_le x y 0 x.length (x.length + 1)
    rw [length_partsBetween]; lia
  have fin : ∀ (lx : List (Str × Tok)) (tk' : Nat), lx.map (·.1) = Txt.split x y → Q (.ref hh.objs.size) (sh s₀ (hh.push (lst (strValues lx) 0)) tk') := fun lx tk' e => h _ lx _ _ _ e S.le_push ⟨0, View.set_self ..⟩ (S.allocImm rfl)
  cases h1 : (decide (x.length < y.length) || decide (Builtin.Str.strKind x < Builtin.Str.strKind y))
  · cases hf : (Builtin.Str.occurrences x y 0 x.length (x.length + 1)).isEmpty
    · refine call_meets F.slot_str_split (typeIs_str _ _ _) F.entry_str_split (F.args_str_split_2 _ _) (meets_str_split_sep x y t u h1 hy hf (by lia) hn) ?_
      show wants Q E _ { sh s₀ hh tk with toks := _, heap := hh.push { cls := .type "list", data := .seq (strsFrom tk (Builtin.Str.partsBetween x (Builtin.Str.occurrences x y 0 x.length (x.length + 1)) y.length)).toArray } }
      rw [strsFrom_eq]
      exact fin (numbered tk _) _ ((numbered_texts _ _).trans ((if_neg (ne_true_of_eq_false h1)).trans (if_neg (ne_true_of_eq_false hf))).symm)
    · exact call_meets F.slot_str_split (typeIs_str _ _ _) F.entry_str_split (F.args_str_split_2 _ _) (meets_str_split_not_found x y t u h1 hy hf)
        (fin [(x, t)] tk ((if_neg (ne_true_of_eq_false h1)).trans (if_pos hf)).symm)
  · exact call_meets F.slot_str_split (typeIs_str _ _ _) F.entry_str_split (F.args_str_split_2 _ _) (meets_str_split_cannot_occur x y t u h1)
      (fin [(x, t)] tk (if_pos h1).symm)
end
def IsE (g : View) (p : Tr × Nat) (v : Value) : Prop := ∃ a w tok, v = .ref a ∧ TV g a [w, .int (p.2 : Int) tok] ∧ IsOb g p.1 w
theorem IsE.mono {g g' : View} (l : Le g g') (p : Tr × Nat) (v : Value) (h : IsE g p v) : IsE g' p v := by obtain ⟨a, w, tok, e, x, y⟩ := h; exact ⟨a, w, tok, e, x.mono l, IsOb.mono l _ y⟩
def flats (l : List (Tr × Nat)) : List (Nat × Str) := l.reverse.flatMap fun p => p.1.flat p.2
theorem flats_snoc (l : List (Tr × Nat)) (p : Tr × Nat) : flats (l ++ [p]) = p.1.flat p.2 ++ flats l := by simp [flats]
theorem flats_kids (l : List (Tr × Nat)) (f : Fo) (d : Nat) : flats (l ++ f.list.reverse.map fun t => (t, d)) = f.flat d ++ flats l := by
  unfold flats
  rw [List.reverse_append, List.flatMap_append]
  congr 1
  rw [Fo.flat_list, ← List.map_reverse, List.reverse_reverse, List.flatMap_map]
def SJ (t : Tr) (la ra : Addr) (k : Nat) (g : View) (m : Nm) (mu : Mus) : Prop :=
  m (Str.ofString "line") = some (.ref la) ∧ m (Str.ofString "rows") = some (.ref ra) ∧ ∃ ln lv dn rv, mu = [(la, lv), (ra, rv)] ∧ All2 (IsE g) ln lv ∧ StrsAre rv (dn.map rowOf) ∧ dn ++ flats ln = t.flat 0 ∧ k = lsize (ln.map (·.1)) ∧ ∀ p ∈ ln, p.1.wide
theorem StrsAre.snoc {vs : List Value} {ys : List Str} (h : StrsAre vs ys) (y : Str) (t : Tok) : StrsAre (vs ++ [.str y t]) (ys ++ [y]) := by
  induction h with
  | nil => exact .cons _ _ .nil
  | cons y0 t0 _ ih => exact .cons _ _ ih
theorem sum_le_of {l : List Nat} {b : Nat} (h : ∀ x ∈ l, x ≤ b) : l.sum ≤ l.length * b := by
  induction l with
  | nil => simp
  | cons x r ih =>
    have := h x (by simp)
    have := ih fun y hy => h y (by simp [hy])
    rw [List.sum_cons, List.length_cons, Nat.succ_mul]; lia
section
variable {Γ : Wd} {g : View}
theorem show_ok (O : Γ.On g) {A : Around} {s₀ : Shared} {hh : Heap} {tk : Nat} {Q E : Value → Shared → Prop} {t : Tr} {v : Value} (r : Rm A 3) (hs : Sub g hh) (I : IsOb g t v) (hw : t.wide) (hz : t.size ≤ 1000) (hd : t.dep ≤ 100)
    (ret : ∀ tok h' tk' g', Grow [] hh g h' g' → Q (.str (Str.join lineFeed ((t.flat 0).map rowOf)) tok) (sh s₀ h' tk')) :
    MOn Γ A E (Str.ofString "show") Q v (sh s₀ hh tk) := by
  have key : ∀ {es : List DictEntry} {x C : Addr}, v = .ref x → IV g x C es → getL (Str.ofString "show") es = some none → plainGet (KF Γ) C (Str.ofString "show") = true → findIn (KF Γ) (.ref C) (Str.ofString "show") = some (some (.ref 82)) → MOn Γ A E (Str.ofString "show") Q v (sh s₀ hh tk) := by
    intro es x C ev I' hsh hpg hfi
    refine ev ▸ mOn 82 O hs I' hpg hfi (by kernel_rfl) (by kernel_rfl) hsh ?_
    have I : IsOb g t (.ref x) := ev ▸ I
    clear ev hsh hpg hfi
    refine enter (mu := []) (W := []) (binds := [(Str.ofString "self", .ref x)]) O hs r (by rfl) (by rfl) (BindsTo.of_eq (by rfl)) (by simp) (by simp) (by decide) (by rfl) fun h₁ tk L S B => ?_
    have r' : ∀ env, Rm (A.deeper env) 2 := fun env => r.deeper
    refine wpAny_execs_cons ?_
    refine wpAny_Assign_Name ?_
    refine PyProof.Rows.List_ ?_
    refine wpAny_items_nil ?_
    refine newListM S (by simp) fun ra h2 S => stor S fun h2 tk2 S => ?_
    refine wpAny_execs_cons ?_
    refine wpAny_Assign_Name ?_
    refine PyProof.Rows.List_ ?_
    refine wpAny_items_cons ?_
    refine PyProof.Rows.Tuple_ ?_
    refine wpAny_items_cons ?_
    refine Mine.nm (by assumption) rfl ?_
    refine wpAny_items_cons ?_
    refine cInt fun _ _ => ?_
    refine wpAny_items_nil ?_
    refine newTupI S (by simp) fun l0 h3 g3 hle3 hl3 S => ?_
    refine wpAny_items_nil ?_
    refine newListM S (by simp) fun la h4 S => stor S fun h4 tk4 S => ?_
    have O3 := O.mono hle3
    refine wpAny_execs_cons (while_walk S (SJ t la ra) (fun g m mu => SJ t la ra 0 g m mu) (lsize [t]) ⟨rfl, rfl, [(t, 0)], [.ref l0], [], [], rfl, .cons ⟨l0, _, _, rfl, hl3, IsOb.mono hle3 _ I⟩ .nil, .nil, by simp [flats], rfl, by simpa using hw⟩ ?_ ?_)
    · intro k g1 m1 mu1 h5 tk5 E' hj hle S1
      have O1 := O3.mono hle
      have hml := hj.1
      have hmr := hj.2.1
      refine Exists.elim hj.2.2 fun ln e => Exists.elim e fun lv e => Exists.elim e fun dn e => Exists.elim e fun rv hj => ?_
      have S2 := S1.mu_eq hj.1
      have hall := hj.2.1
      have hrv := hj.2.2.1
      have hfl := hj.2.2.2.1
      have hk := hj.2.2.2.2.1
      have hwl := hj.2.2.2.2.2
      have hdn : dn.length ≤ 1000 := by have := congrArg List.length hfl; rw [List.length_append, Tr.flat_len] at this; lia
      have hrl := hrv.len_eq
      rw [List.length_map] at hrl
      have hll := hall.length
      refine wpAny_isTrue_Compare1 ?_
      refine nm S2 hml ?_
      refine PyProof.Rows.List_ ?_
      refine wpAny_items_nil ?_
      refine newListJ S2 (by simp) fun l1 h6 S2 hl1 => ?_
      refine neNil S2.mu0 hl1 (r' _).units ?_
      refine wpAny_truthy_bool ?_
      refine (nil_or_snoc lv).elim (fun hlv => ?_) fun hlv => ?_
      · refine ite_neg (by simp [hlv]) ?_
        have hln : ln = [] := List.length_eq_zero_iff.mp (by rw [← hll, hlv]; rfl)
        exact FAfter.of S2 ⟨hml, hmr, ln, lv, dn, rv, rfl, hall, hrv, hfl, by rw [hln]; rfl, hwl⟩
      · refine Exists.elim hlv fun lv' e => Exists.elim e fun x1 hlv => ?_
        refine ite_pos (by simp [hlv]) ?_
        refine Exists.elim (All2.unsnoc (hlv ▸ hall)) fun ln' e => Exists.elim e fun p hu => ?_
        refine Exists.elim hu.2.2 fun a e => Exists.elim e fun w e => Exists.elim e fun dt hp => ?_
        have hx1 : x1 = .ref a := hp.1
        have hwp : p.1.wide := hwl p (by rw [hu.1]; simp)
        have hks : lsize (ln.map (·.1)) = lsize (ln'.map (·.1)) + p.1.size := by rw [hu.1, List.map_append, lsize_append]; simp [lsize]
        have hus := Tr.size_eq p.1
        have hlen' := hu.2.1.length
        have hks2 := Fo.lsize p.1.kids
        have hkl := len_le_lsize p.1.kids.list
        have hfl2 : dn ++ (p.1.flat p.2 ++ flats ln') = t.flat 0 := by rw [← hfl, hu.1, flats_snoc]
        have hmem : (p.2, p.1.head) ∈ t.flat 0 := by rw [← hfl2, Tr.flat_eq]; simp
        have hpd := Tr.flat_mem 0 t hw _ hmem
        have hpd1 : p.2 ≤ 100 := by have := hpd.2.1; simp only at this; lia
        have hpd2 : p.1.head.length ≤ 41 := hpd.2.2.1
        have hsz1 : lsize (ln'.map (·.1)) + p.1.size ≤ 1000 := by
          have h1 := congrArg List.length hfl2
          have h2 : (flats ln').length = lsize (ln'.map (·.1)) := by
            unfold flats lsize
            rw [List.length_flatMap, List.map_map, List.map_reverse, List.sum_reverse]
            congr 1
            exact List.map_congr_left fun q _ => Tr.flat_len _ _
          rw [List.length_append, List.length_append, Tr.flat_len, Tr.flat_len, h2] at h1
          lia
        have hl3 := len_le_lsize (ln'.map (·.1))
        rw [List.length_map] at hl3
        refine wpAny_execs_cons (Assign_Tuple ?_)
        refine popN S2 hml (by rw [← hlv]; exact S2.mu0) (by lia) fun h7 hl7 hs7 => ?_
        have S3 := S2.upd0 hl7 hs7
        refine hx1.symm ▸ unpack2 S3 (r' _).1 hp.2.1 fun h8 tk8 S3 => ?_
        refine wpAny_execs_cons (appendN S3 hmr S3.mu1 ?_)
        refine wpAny_BinOp ?_
        refine wpAny_BinOp ?_
        refine cStr fun _ _ => ?_
        refine Mine.nm (by assumption) rfl ?_
        refine mulS (by lia) fun _ _ => ?_
        skip
        refine callM ?_
        refine Mine.nm (by assumption) rfl ?_
        refine head_ob O1 S3.sub ((r' _).le) hwp hp.2.2 fun tok h9 tk9 G9 => ?_
        replace S3 := S3.after G9
        skip
        refine addS (by rw [ind_len, sizeLine_eq]; lia) fun tks _ => ?_
        refine appOn S3.mu1 (by lia) fun h10 hl10 hs10 => ?_
        have S4 := S3.upd1 hl10 hs10
        refine wpAny_execs_cons (for_start ?_)
        refine callTy O1 S4.sub b_rev bb_rev (by decide) ?_
        refine wpAny_items_cons ?_
        refine PyProof.Rows.Attribute_any_ ?_
        refine Mine.nm (by assumption) rfl ?_
        refine kidsV O1 S4.sub hp.2.2 fun lk vk tk11 hlk hak => ?_
        have hvk := hak.length
        refine wpAny_items_nil ?_
        refine revC S4 hlk fun I2 h12 S4 hoff hne hit => ?_
        refine for_rev S4 (r' _).1 hlk hoff hne hit (fun i g2 m2 mu2 => m2 (Str.ofString "line") = some (.ref la) ∧ m2 (Str.ofString "rows") = some (.ref ra) ∧ m2 (Str.ofString "deep") = some (.int (p.2 : Int) dt) ∧ ∃ lv2, mu2 = [(la, lv2), (ra, rv ++ [.str (ind p.2 ++ p.1.head) tks])] ∧ All2 (IsE g2) (ln' ++ (p.1.kids.list.reverse.take i).map fun t => (t, p.2 + 1)) lv2) ⟨hml, hmr, rfl, lv', rfl, by simpa using hu.2.1⟩ ?_ ?_ (hW := List.mem_cons_self)
        · intro i w2 g3 m3 mu3 h13 tk13 E3 hi hiw hj3 hle3 S5
          refine Exists.elim hj3.2.2.2 fun lv2 hj4 => ?_
          have S6 := S5.mu_eq hj4.1
          have hlen2 := hj4.2.length
          have hlt : (List.take i p.1.kids.list.reverse).length ≤ p.1.kids.list.length := by rw [List.length_take, List.length_reverse]; omega
          rw [List.length_append, List.length_map] at hlen2
          refine Exists.elim (All2.get hak.reverse hiw) fun w' hw' => ?_
          refine wpAny_execs_cons (appendN S6 hj3.1 S6.mu0 ?_)
          refine PyProof.Rows.Tuple_ ?_
          refine wpAny_items_cons ?_
          refine Mine.nm (by assumption) rfl ?_
          refine wpAny_items_cons ?_
          refine wpAny_BinOp ?_
          refine nm S6 (show _ = some (.int (p.2 : Int) dt) from hj3.2.2.1) ?_
          refine cInt fun _ _ => ?_
          refine addI fun _ _ => ?_
          refine wpAny_items_nil ?_
          refine newTupI S6 (by simp) fun l4 h14 g4 hle4 hl4 S6 => ?_
          refine appOn S6.mu0 (by lia) fun h15 hl15 hs15 => ?_
          have S7 := S6.upd0 hl15 hs15
          refine wpAny_execs_nil ?_
          refine ⟨rfl, FAfter.of S7 ⟨hj3.1, hj3.2.1, hj3.2.2.1, _, rfl, ?_⟩⟩
          rw [List.take_add_one, hw'.1]
          have := (hj4.2.mono fun t v h => IsE.mono hle4 t v h).snoc (t := (w', p.2 + 1)) ⟨l4, _, _, rfl, hl4, IsOb.mono (hle3.trans hle4) _ hw'.2⟩
          simpa [List.append_assoc] using this
        · intro h13 tk13 g3 m3 mu3 hj3 hle3 S5
          refine Exists.elim hj3.2.2.2 fun lv2 hj4 => ?_
          refine wpAny_execs_nil ?_
          refine ⟨rfl, lsize ((ln' ++ p.1.kids.list.reverse.map fun t => (t, p.2 + 1)).map (·.1)), ?_, FAfter.of S5 ⟨hj3.1, hj3.2.1, ln' ++ p.1.kids.list.reverse.map fun t => (t, p.2 + 1), lv2, dn ++ [(p.2, p.1.head)], _, hj4.1, ?_, ?_, ?_, rfl, ?_⟩⟩
          · rw [hk, hks, List.map_append, lsize_append, List.map_map]
            have e : ((fun x : Tr × Nat => x.1) ∘ fun t => (t, p.2 + 1)) = id := rfl
            rw [e, List.map_id]
            have e2 : lsize p.1.kids.list.reverse = lsize p.1.kids.list := by simp [lsize, List.sum_reverse]
            rw [e2, hks2]; lia
          · have := hj4.2; rwa [hvk, ← List.length_reverse, List.take_length] at this
          · rw [List.map_append]; exact StrsAre.snoc hrv _ _
          · rw [flats_kids, ← hfl2, Tr.flat_eq]; simp
          · intro q hq
            rcases List.mem_append.mp hq with h | h
            · exact hwl q (by rw [hu.1]; exact List.mem_append_left _ h)
            · obtain ⟨t', ht', rfl⟩ := List.mem_map.mp h
              exact Fo.wide_mem _ (Tr.wide_kids hwp).2 (List.mem_reverse.mp ht')
    · intro h5 tk5 g1 m1 mu1 hj hle S1
      refine Exists.elim hj.2.2 fun ln e => Exists.elim e fun lv e => Exists.elim e fun dn e => Exists.elim e fun rv hj2 => ?_
      have S2 := S1.mu_eq hj2.1
      have hln : ln = [] := by
        have := hj2.2.2.2.2.1
        cases ln with
        | nil => rfl
        | cons a b => have h1 := Tr.size_pos a.1; simp [lsize] at this; lia
      have hdn : dn = t.flat 0 := by have := hj2.2.2.2.1; rw [hln] at this; simpa [flats] using this
      have hrv : StrsAre rv ((t.flat 0).map rowOf) := hdn ▸ hj2.2.2.1
      have hsum : ((((t.flat 0).map rowOf).map (·.length)).sum + ((t.flat 0).map rowOf).length) ≤ 1048576 := by
        have h1 : (((t.flat 0).map rowOf).map (·.length)).sum ≤ (((t.flat 0).map rowOf).map (·.length)).length * 300 := sum_le_of fun x hx => by
          simp only [List.mem_map] at hx
          obtain ⟨s, ⟨p, hp, rfl⟩, rfl⟩ := hx
          have := Tr.flat_mem 0 t hw p hp
          rw [rowOf_len]
          have := this.2.2.1
          lia
        rw [List.length_map, List.length_map, Tr.flat_len] at h1
        rw [List.length_map, Tr.flat_len]
        lia
      refine wpAny_execs_cons ?_
      refine wpAny_Return_some ?_
      refine strM1 F.slot_str_join F.type_str_join ?_
      refine cStr fun _ _ => ?_
      refine ⟨_, _, rfl, ?_⟩
      refine nm S2 hj.2.1 ?_
      refine PyProof.Rows.join_listW (S2.mu1.isList) (by simpa using hrv) (by decide +kernel) hsum fun t' k => ?_
      have e : Txt.join (Str.ofString "\n") ((t.flat 0).map rowOf) = Str.join lineFeed ((t.flat 0).map rowOf) := StrLaws.glued_eq_join _ _
      exact e ▸ ret _ _ _ _ (B S2)
  cases t with
  | leaf k x =>
    have I2 := I
    simp only [IsOb] at I2
    obtain ⟨a, es, l, t1, ta, ev, I3, S, _⟩ := I2
    exact key ev I3 S.2.2.1 (by kernel_rfl) (by kernel_rfl)
  | node n cs =>
    have I2 := I
    simp only [IsOb] at I2
    obtain ⟨a, es, l, t1, vs, ev, I3, S, _⟩ := I2
    exact key ev I3 S.2.2.1 (by kernel_rfl) (by kernel_rfl)
end

/-- the stack of heights over what is left of the order -/
def Runs (h : Int) : List Int → List Tr → Prop
  | d, [] => d = [h]
  | d, u :: r => ∃ d', d = d' ++ u.kids.list.map (fun t => (t.hgt : Int)) ∧ Runs h (d' ++ [(u.hgt : Int)]) r
mutual
theorem Tr.runs {h : Int} : ∀ (t : Tr) {d : List Int} {l : List Tr}, Runs h (d ++ [(t.hgt : Int)]) l → Runs h d (t.post ++ l)
  | .leaf k x, d, l, r => by rw [Tr.post_eq]; exact ⟨d, by simp [Tr.kids, Fo.list], r⟩
  | .node n cs, d, l, r => by
    rw [Tr.post_eq]
    simp only [Tr.kids, List.append_assoc]
    exact Fo.runs cs ⟨d, rfl, r⟩
theorem Fo.runs {h : Int} : ∀ (f : Fo) {d : List Int} {l : List Tr}, Runs h (d ++ f.list.map (fun t => (t.hgt : Int))) l → Runs h d (f.list.flatMap Tr.post ++ l)
  | .nil, d, l, r => by simpa [Fo.list] using r
  | .cons t f, d, l, r => by
    simp only [Fo.list, List.flatMap_cons, List.append_assoc]
    exact Tr.runs t (Fo.runs f (by simpa [Fo.list] using r))
end
theorem Tr.hgt_eq (t : Tr) : (t.hgt : Int) = (t.kids.hgt : Int) + (if t.isLeaf = true then 0 else 1) := by
  cases t <;> simp [Tr.hgt, Tr.kids, Fo.hgt, Tr.isLeaf] <;> lia
def leafs (l : List Tr) : List (Str × Str) := l.filterMap fun | .leaf k t => some (k, t) | .node _ _ => none
theorem leafs_append (a b : List Tr) : leafs (a ++ b) = leafs a ++ leafs b := by simp [leafs]
def TokP (g : View) (p : Str × Str) (v : Value) : Prop := ∃ x, v = .ref x ∧ TokV g x p.1 p.2
def TupP (g : View) (p : Str × Str) (v : Value) : Prop := ∃ a t1 t2, v = .ref a ∧ TV g a [.str p.1 t1, .str p.2 t2]
theorem TokP.mono {g g' : View} (l : Le g g') (p : Str × Str) (v : Value) (h : TokP g p v) : TokP g' p v := by obtain ⟨x, e, T⟩ := h; exact ⟨x, e, T.mono l⟩
theorem TupP.mono {g g' : View} (l : Le g g') (p : Str × Str) (v : Value) (h : TupP g p v) : TupP g' p v := by obtain ⟨a, t1, t2, e, T⟩ := h; exact ⟨a, t1, t2, e, T.mono l⟩
section
variable {Γ : Wd} {A : Around} {E : Value → Shared → Prop} {s₀ : Shared} {hh : Heap} {tk : Nat} {g : View} {t : Tr} {v : Value}
theorem IsOb.any (I : IsOb g t v) : ∃ x C es, v = .ref x ∧ IV g x C es ∧ Sh es ∧ (C = 120 ∨ C = 85) := by
  cases t with
  | leaf k x =>
    simp only [IsOb] at I
    obtain ⟨a, es, l, t1, ta, ev, I3, S, _⟩ := I
    exact ⟨a, 120, es, ev, I3, S, .inl rfl⟩
  | node n cs =>
    simp only [IsOb] at I
    obtain ⟨a, es, l, t1, vs, ev, I3, S, _⟩ := I
    exact ⟨a, 85, es, ev, I3, S, .inr rfl⟩
theorem told_tok (O : Γ.On g) (hs : Sub g hh) (r : Rm A 1) {p : Str × Str} (I : TokP g p v) {Q : Value → Shared → Prop} (ret : ∀ w h' tk' g', Grow [] hh g h' g' → TupP g' p w → Q w (sh s₀ h' tk')) : MOn Γ A E (Str.ofString "told") Q v (sh s₀ hh tk) := by
  obtain ⟨x, rfl, T⟩ := I
  have T2 := T
  obtain ⟨es, t1, t2, I, a, b, c⟩ := T2
  refine mOn 151 O hs I (by kernel_rfl) (by kernel_rfl) (by kernel_rfl) (by kernel_rfl) c ?_
  refine enter (mu := []) (W := []) (binds := [(Str.ofString "self", .ref x)]) O hs r (by rfl) (by rfl) (BindsTo.of_eq (by rfl)) (by simp) (by simp) (by decide) (by rfl) fun h₁ tk L S B => ?_
  refine wpAny_execs_cons ?_
  refine wpAny_Return_some ?_
  refine PyProof.Rows.Tuple_ ?_
  refine wpAny_items_cons ?_
  refine PyProof.Rows.Attribute_any_ ?_
  refine Mine.nm (by assumption) rfl ?_
  refine tok_kind O S.sub T fun _ _ => ?_
  refine wpAny_items_cons ?_
  refine PyProof.Rows.Attribute_any_ ?_
  refine Mine.nm (by assumption) rfl ?_
  refine tok_text O S.sub T fun _ _ => ?_
  refine wpAny_items_nil ?_
  refine newTupI S (by simp) fun l0 h3 g3 hle3 hl3 S => ?_
  exact ret _ _ _ _ (B S) ⟨_, _, _, rfl, hl3⟩
theorem leaftok (O : Γ.On g) (hs : Sub g hh) (I : IsOb g t v) (hlf : t.isLeaf = true) {Q : Value → Shared → Prop} (h : ∀ ta k x tk', t = .leaf k x → TokV g ta k x → Q (.ref ta) (sh s₀ hh tk')) : wpAny Γ.M A (getAttr v (Str.ofString "token") true) Q E (sh s₀ hh tk) := by
  cases t with
  | leaf k x =>
    simp only [IsOb] at I
    obtain ⟨a, es, l, t1, ta, rfl, I, S, _, _, _, f, T⟩ := I
    exact getV (s := sh s₀ hh tk) (attr := none) O hs I (by kernel_rfl) (by kernel_rfl) (by kernel_rfl) (by kernel_rfl) f rfl (h _ _ _ _ rfl T)
  | node n cs => cases hlf
theorem ite01 {env : Env} {b : Bool} {k1 k2 : Nat} {p1 p2 : Pos} {Q : Value → Shared → Prop} (h : ∀ tok tk', Q (.int (if b = true then 0 else 1) tok) (sh s₀ hh tk')) :
    if b = true then wpAny Γ.M A (eval (.Constant (.int 0) k1 p1) env) Q E (sh s₀ hh tk) else wpAny Γ.M A (eval (.Constant (.int 1) k2 p2) env) Q E (sh s₀ hh tk) := by
  cases b with
  | true => exact ite_pos rfl (cInt fun t tk => h t tk)
  | false => exact ite_neg (by simp) (cInt fun t tk => h t tk)
theorem height_ob (O : Γ.On g) (hs : Sub g hh) (r : Rm A 3) (I : IsOb g t v) (hz : t.size ≤ 1000) {Q : Value → Shared → Prop} (ret : ∀ tok h' tk' g', Grow [] hh g h' g' → Q (.int t.hgt tok) (sh s₀ h' tk')) : MOn Γ A E (Str.ofString "height") Q v (sh s₀ hh tk) := by
  obtain ⟨x, C, es, rfl, I', hS, hC⟩ := I.any
  have key : plainGet (KF Γ) C (Str.ofString "height") = true ∧ findIn (KF Γ) (.ref C) (Str.ofString "height") = some (some (.ref 75)) := by rcases hC with rfl | rfl <;> exact ⟨by kernel_rfl, by kernel_rfl⟩
  refine mOn 75 O hs I' key.1 key.2 (by kernel_rfl) (by kernel_rfl) hS.2.2.2.1 ?_
  clear key hS I' hC
  refine enter (mu := []) (W := []) (binds := [(Str.ofString "self", .ref x)]) O hs r (by rfl) (by rfl) (BindsTo.of_eq (by rfl)) (by simp) (by simp) (by decide) (by rfl) fun h₁ tk L S B => ?_
  have r' : ∀ env, Rm (A.deeper env) 2 := fun env => r.deeper
  refine wpAny_execs_cons ?_
  refine wpAny_Assign_Name ?_
  refine PyProof.Rows.List_ ?_
  refine wpAny_items_nil ?_
  refine newListI S (by simp) fun l0 h2 g2 hle2 hl2 S => stor S fun h2 tk2 S => ?_
  refine wpAny_execs_cons (for_start ?_)
  have O2 := O.mono hle2
  refine callG O2 S.sub n_post (by kernel_rfl) ?_
  refine wpAny_items_cons ?_
  refine Mine.nm (by assumption) rfl ?_
  refine wpAny_items_nil ?_
  refine ⟨_, O2, S.sub, postorder_ok O2 ((r' _).le) S.sub (IsOb.mono hle2 _ I) hz fun lp vp h3 tk3 g3 G3 hlp hvp => ?_⟩
  replace S := S.after G3
  have O3 := O2.mono G3.le
  have hpl : t.post.length = t.size := by unfold Tr.post; rw [List.length_reverse, Tr.rpre_len]
  have hvl := hvp.length
  refine for_list S (r' _).1 hlp (fun i g4 m4 mu4 => mu4 = [] ∧ ∃ da dv ns, m4 (Str.ofString "done") = some (.ref da) ∧ LV g4 da dv ∧ IntsAre dv ns ∧ dv.length ≤ i ∧ Runs t.hgt ns (t.post.drop i)) ⟨rfl, l0, [], [], rfl, hl2.mono G3.le, .nil, Nat.le_refl _, ?_⟩ ?_ ?_
  · rw [List.drop_zero]
    have := Tr.runs (h := t.hgt) t (d := []) (l := []) rfl
    simpa using this
  · intro i w g4 m4 mu4 h4 tk4 E' hiw hj hle4 S4
    refine Exists.elim hj.2 fun da e => Exists.elim e fun dv e => Exists.elim e fun ns hj2 => ?_
    have S5 := S4.mu_eq hj.1
    have O4 := O3.mono hle4
    have hmd := hj2.1
    have hdv := hj2.2.1
    have hns := hj2.2.2.1
    have hdl := hj2.2.2.2.1
    refine Exists.elim (All2.get hvp hiw) fun u hu => ?_
    have hi := (List.getElem?_eq_some_iff.mp hiw).1
    have hdrop : t.post.drop i = u :: t.post.drop (i + 1) := by
      have h1 := (List.getElem?_eq_some_iff.mp hu.1)
      rw [List.drop_eq_getElem_cons h1.1, h1.2]
    have hruns := hj2.2.2.2.2
    rw [hdrop] at hruns
    refine Exists.elim hruns fun d' hr => ?_
    have hdn := hns.length
    have hk : dv.length = d'.length + u.kids.list.length := by have h1 := congrArg List.length hr.1; rw [List.length_append, List.length_map] at h1; lia
    have hub := IsOb.mono hle4 _ hu.2
    refine wpAny_execs_cons ?_
    refine wpAny_Assign_Name ?_
    refine wpAny_BinOp ?_
    refine callB O4 S5.sub b_len bb_len (by decide) ?_
    refine wpAny_items_cons ?_
    refine nm S5 (show _ = some (.ref da) from hmd) ?_
    refine wpAny_items_nil ?_
    refine lenL (hdv.plain S5.sub) (by lia) fun _ _ => ?_
    skip
    refine callB O4 S5.sub b_len bb_len (by decide) ?_
    refine wpAny_items_cons ?_
    refine PyProof.Rows.Attribute_any_ ?_
    refine Mine.nm (by assumption) rfl ?_
    refine kidsV O4 S5.sub hub fun lk vk tk8 hlk hak => ?_
    have hvk := hak.length
    refine wpAny_items_nil ?_
    refine lenL (hlk.plain S5.sub) (by lia) fun _ _ => ?_
    refine subI fun _ _ => ?_
    refine stor S5 fun h6 tk6 S5 => ?_
    have hst : (dv.length : Int) - (vk.length : Int) = ((d'.length : Nat) : Int) := by lia
    refine wpAny_execs_cons ?_
    refine wpAny_Assign_Name ?_
    refine callB O4 S5.sub b_max bb_max (by decide) ?_
    refine wpAny_items_cons ?_
    refine wpAny_BinOp ?_
    refine slc_start ?_
    refine nm S5 (show _ = some (.ref da) from hmd) ?_
    refine partSome ?_
    refine Mine.nm (by assumption) rfl ?_
    refine wpAny_pure ?_
    refine slcI (ys := dv.drop d'.length) S5 (hdv.isList S5.sub) (.int _ _) .none (by lia) (hst.symm ▸ pickFrom _) fun l7 h7 g7 hle7 hl7 S5 => ?_
    refine PyProof.Rows.List_ ?_
    refine wpAny_items_cons ?_
    refine cInt fun _ _ => ?_
    refine wpAny_items_nil ?_
    refine newListI S5 (by simp) fun l8 h8 g8 hle8 hl8 S5 => ?_
    refine addL S5 ((hl7.mono hle8).plain S5.sub) (hl8.plain S5.sub) (by rw [List.length_drop]; simp; lia) fun l9 h9 g9 hle9 hl9 S5 => ?_
    have hle79 := hle7.trans (hle8.trans hle9)
    have hi9 : ∀ tok, IntsAre (dv.drop d'.length ++ [.int 0 tok]) (u.kids.list.map (fun t => (t.hgt : Int)) ++ [0]) := fun tok => ints_snoc (by have := hns.drop d'.length; rwa [hr.1, List.drop_left] at this) 0 tok
    refine wpAny_items_nil ?_
    refine maxL S5 (r' _).1 (hl9.plain S5.sub) (hi9 _) (by simp) fun h10 tk10 tok M S5 hM1 hM2 => ?_
    have hMe := max_is hM1 hM2
    skip
    refine stor S5 fun h11 tk11 S5 => ?_
    refine wpAny_execs_cons ?_
    refine wpAny_Assign_Name ?_
    refine wpAny_BinOp ?_
    refine slc_start ?_
    refine nm S5 (show _ = some (.ref da) from hmd) ?_
    refine wpAny_pure ?_
    refine partSome ?_
    refine Mine.nm (by assumption) rfl ?_
    refine slcI (ys := dv.take d'.length) S5 ((hdv.mono hle79).isList S5.sub) .none (.int _ _) (by lia) (hst.symm ▸ pickUp _) fun l12 h12 g12 hle12 hl12 S5 => ?_
    have O12 := O4.mono (hle79.trans hle12)
    refine PyProof.Rows.List_ ?_
    refine wpAny_items_cons ?_
    refine wpAny_BinOp ?_
    refine Mine.nm (by assumption) rfl ?_
    refine wpAny_IfExp ?_
    refine PyProof.Rows.isTrue_plain ?_
    refine callM ?_
    refine Mine.nm (by assumption) rfl ?_
    refine isleaf_ok O12 S5.sub ((r' _).le) (IsOb.mono (hle79.trans hle12) _ hub) fun h13 tk13 G13 => ?_
    replace S5 := S5.after G13
    refine wpAny_truthy_bool ?_
    refine ite01 fun tok3 tk14 => ?_
    · refine addI fun _ _ => ?_
      refine wpAny_items_nil ?_
      refine newListI S5 (by simp) fun l15 h15 g15 hle15 hl15 S5 => ?_
      refine addL S5 ((hl12.mono hle15).plain S5.sub) (hl15.plain S5.sub) (by rw [List.length_take]; simp; omega) fun l16 h16 g16 hle16 hl16 S5 => ?_
      refine stor S5 fun h17 tk17 S5 => ?_
      refine wpAny_execs_nil ?_
      refine ⟨rfl, FAfter.of S5 ⟨rfl, l16, _, d' ++ [(u.hgt : Int)], rfl, hl16, ?_, ?_, hr.2⟩⟩
      · have := ints_take hns d'.length
        rw [hr.1, List.take_left] at this
        have e : (u.hgt : Int) = M + (if u.isLeaf = true then 0 else 1) := by rw [hMe]; exact Tr.hgt_eq u
        rw [e]
        exact ints_snoc this _ _
      · rw [List.length_append, List.length_take]; simp; omega
  · intro h4 tk4 g4 m4 mu4 hj hle4 S4
    refine Exists.elim hj.2 fun da e => Exists.elim e fun dv e => Exists.elim e fun ns hj2 => ?_
    have S5 := S4.mu_eq hj.1
    have hruns := hj2.2.2.2.2
    rw [List.drop_of_length_le (by lia)] at hruns
    have hns : IntsAre dv [(t.hgt : Int)] := (show ns = [(t.hgt : Int)] from hruns) ▸ hj2.2.2.1
    refine Exists.elim (hns.get 0 _ rfl) fun tok e1 => ?_
    refine wpAny_execs_cons ?_
    refine wpAny_Return_some ?_
    refine Subscript_ ?_
    refine nm S5 hj2.1 ?_
    refine cInt fun _ _ => ?_
    refine getsL (hj2.2.1.plain S5.sub) (by decide) (by decide) e1 ?_
    exact ret _ _ _ _ (B S5)
theorem leaves_ob (O : Γ.On g) (hs : Sub g hh) (r : Rm A 3) (I : IsOb g t v) (hz : t.size ≤ 1000) {Q : Value → Shared → Prop} (ret : ∀ l vs h' tk' g', Grow [] hh g h' g' → LV g' l vs → All2 (TokP g') (leafs t.post) vs → Q (.ref l) (sh s₀ h' tk')) : MOn Γ A E (Str.ofString "leaves") Q v (sh s₀ hh tk) := by
  obtain ⟨x, C, es, rfl, I', hS, hC⟩ := I.any
  have key : plainGet (KF Γ) C (Str.ofString "leaves") = true ∧ findIn (KF Γ) (.ref C) (Str.ofString "leaves") = some (some (.ref 61)) := by rcases hC with rfl | rfl <;> exact ⟨by kernel_rfl, by kernel_rfl⟩
  refine mOn 61 O hs I' key.1 key.2 (by kernel_rfl) (by kernel_rfl) hS.2.2.2.2 ?_
  clear key hS I' hC
  refine enter (mu := []) (W := []) (binds := [(Str.ofString "self", .ref x)]) O hs r (by rfl) (by rfl) (BindsTo.of_eq (by rfl)) (by simp) (by simp) (by decide) (by rfl) fun h₁ tk L S B => ?_
  have r' : ∀ env, Rm (A.deeper env) 2 := fun env => r.deeper
  refine wpAny_execs_cons ?_
  refine wpAny_Return_some ?_
  refine comp_start (cl := []) (by rfl) (by rfl) (by decide) ?_
  refine callG O S.sub n_post (by kernel_rfl) ?_
  refine wpAny_items_cons ?_
  refine Mine.nm (by assumption) rfl ?_
  refine wpAny_items_nil ?_
  refine ⟨_, O, S.sub, postorder_ok O ((r' _).le) S.sub I hz fun lp vp h3 tk3 g3 G3 hlp hvp => ?_⟩
  replace S := S.after G3
  have O3 := O.mono G3.le
  have hpl : t.post.length = t.size := by unfold Tr.post; rw [List.length_reverse, Tr.rpre_len]
  have hvl := hvp.length
  refine comp_list S (r' _).1 (hlp.plain S.sub) (by lia) (fun i ys g4 => All2 (TokP g4) (leafs (t.post.take i)) ys ∧ ys.length ≤ i) ⟨.nil, Nat.le_refl _⟩ (fun i ys g4 h => h.2) (by decide) (by rfl) (by rfl) ?_ ?_
  · intro i w ys g4 h4 tk4 C' m' E' hiw hj hle4 S4
    have O4 := O3.mono hle4
    refine Exists.elim (All2.get hvp hiw) fun u hu => ?_
    have hub := IsOb.mono hle4 _ hu.2
    have hi := (List.getElem?_eq_some_iff.mp hiw).1
    refine tests_one ?_
    refine PyProof.Rows.isTrue_plain ?_
    refine callM ?_
    refine Mine.nm (by assumption) rfl ?_
    refine isleaf_ok O4 S4.sub ((r' _).le) hub fun h5 tk5 G5 => ?_
    replace S4 := S4.after G5
    refine wpAny_truthy_bool ?_
    cases hlf : u.isLeaf with
    | true =>
      refine ite_pos rfl ?_
      refine PyProof.Rows.Attribute_any_ ?_
      refine Mine.nm (by assumption) rfl ?_
      refine leaftok O4 S4.sub hub hlf fun ta k x tk6 hu2 T => ?_
      refine CAfter.of S4 ⟨?_, by rw [List.length_append]; simp; exact hj.2⟩
      rw [List.take_add_one, hu.1, leafs_append, hu2]
      exact hj.1.snoc (t := (k, x)) ⟨_, rfl, T⟩
    | false =>
      refine ite_neg (by simp) ?_
      refine CAfter.of S4 ⟨?_, by lia⟩
      rw [List.take_add_one, hu.1, leafs_append]
      cases u with
      | leaf k x => cases hlf
      | node n cs => simpa [leafs] using hj.1
  · intro D h4 tk4 g4 g5 ys hj hle4 hle5 hD S
    refine ret _ _ _ _ _ (B S) hD ?_
    have := hj.1
    rw [List.take_of_length_le (by lia)] at this
    exact this.mono fun t v h => TokP.mono hle5 t v h
end

/-- the reader's state: the nodes by their numbers -/
structure Rd where
  n : Nat
  hd : Nat → Str
  kd : Nat → List Nat
  line : List Nat
  roots : List Nat
def Rd.zero : Rd := ⟨0, fun _ => Str.ofString "", fun _ => [], [], []⟩
def up {α : Type} (f : Nat → α) (i : Nat) (x : α) : Nat → α := fun j => if j = i then x else f j
theorem up_self {α : Type} (f : Nat → α) (i : Nat) (x : α) : up f i x i = x := if_pos rfl
theorem up_ne {α : Type} (f : Nat → α) {i j : Nat} (x : α) (h : j ≠ i) : up f i x j = f j := if_neg h
def Rd.step (s : Rd) (p : Nat × Str) : Rd where
  n := s.n + 1
  hd := up s.hd s.n p.2
  kd := match (s.line.take p.1).getLast? with
    | none => up s.kd s.n []
    | some j => up (up s.kd s.n []) j (s.kd j ++ [s.n])
  line := s.line.take p.1 ++ [s.n]
  roots := match (s.line.take p.1).getLast? with
    | none => s.roots ++ [s.n]
    | some _ => s.roots
def Rd.inv (s : Rd) : Prop := ∀ j ∈ s.line, j < s.n
def RunsR (F : Rd → Prop) : Rd → List (Nat × Str) → Prop
  | s, [] => F s
  | s, p :: r => p.1 ≤ s.line.length ∧ RunsR F (s.step p) r
def Fo.offs : Fo → Nat → List Nat
  | .nil, _ => []
  | .cons t r, i => i :: Fo.offs r (i + t.size)
mutual
def Rep (s : Rd) : Tr → Nat → Prop
  | .leaf k t, i => s.hd i = (Tr.leaf k t).head ∧ s.kd i = []
  | .node n cs, i => s.hd i = n ∧ s.kd i = cs.offs (i + 1) ∧ RepF s cs (i + 1)
def RepF (s : Rd) : Fo → Nat → Prop
  | .nil, _ => True
  | .cons t r, i => Rep s t i ∧ RepF s r (i + t.size)
end
theorem Rep_eq (s : Rd) (t : Tr) (i : Nat) : Rep s t i ↔ s.hd i = t.head ∧ s.kd i = t.kids.offs (i + 1) ∧ RepF s t.kids (i + 1) := by
  cases t <;> simp [Rep, Tr.head, Tr.kids, Fo.offs, RepF]
mutual
theorem Rep.same {s s' : Rd} : ∀ (t : Tr) (i : Nat), (∀ j, i ≤ j → j < i + t.size → s'.hd j = s.hd j ∧ s'.kd j = s.kd j) → Rep s t i → Rep s' t i
  | .leaf k x, i, h, r => by
    have := h i (Nat.le_refl _) (by simp [Tr.size])
    simp only [Rep] at r ⊢
    rw [this.1, this.2]; exact r
  | .node n cs, i, h, r => by
    have := h i (Nat.le_refl _) (by simp [Tr.size]; lia)
    simp only [Rep] at r ⊢
    rw [this.1, this.2]
    exact ⟨r.1, r.2.1, RepF.same cs (i + 1) (fun j h1 h2 => h j (by lia) (by simp only [Tr.size]; lia)) r.2.2⟩
theorem RepF.same {s s' : Rd} : ∀ (f : Fo) (i : Nat), (∀ j, i ≤ j → j < i + f.size → s'.hd j = s.hd j ∧ s'.kd j = s.kd j) → RepF s f i → RepF s' f i
  | .nil, i, h, r => by simp only [RepF]
  | .cons t f, i, h, r => by
    simp only [RepF] at r ⊢
    exact ⟨Rep.same t i (fun j h1 h2 => h j h1 (by simp only [Fo.size]; lia)) r.1, RepF.same f (i + t.size) (fun j h1 h2 => h j (by lia) (by simp only [Fo.size]; lia)) r.2⟩
end
structure Sp (s : Rd) (d : Nat) (size : Nat) (s' : Rd) : Prop where
  n : s'.n = s.n + size
  len : d ≤ s'.line.length
  line : s'.line.take d = s.line.take d
  hd : ∀ j, j < s.n → s'.hd j = s.hd j
  inv : s'.inv
/-- hung under p -/
structure Hung (s : Rd) (p : Nat) (is : List Nat) (s' : Rd) : Prop where
  roots : s'.roots = s.roots
  at_ : s'.kd p = s.kd p ++ is
  off : ∀ j, j < s.n → j ≠ p → s'.kd j = s.kd j
theorem last_mem {l : List Nat} {p : Nat} (h : l.getLast? = some p) : p ∈ l := List.mem_of_getLast? h
mutual
theorem Tr.run {F : Rd → Prop} : ∀ (t : Tr) (s : Rd) (d p : Nat) (l : List (Nat × Str)), d ≤ s.line.length → s.inv → (s.line.take d).getLast? = some p →
    (∀ s', Sp s d t.size s' → Rep s' t s.n → Hung s p [s.n] s' → RunsR F s' l) → RunsR F s (t.flat d ++ l)
  | .leaf k x, s, d, p, l, hd, hi, hp, h => by
    have hpn : p < s.n := hi p (List.mem_of_mem_take (last_mem hp))
    simp only [Tr.flat, List.singleton_append]
    refine ⟨hd, h _ ⟨rfl, ?_, ?_, fun j hj => up_ne _ _ (by lia), ?_⟩ ?_ ⟨?_, ?_, ?_⟩⟩
    · simp only [Rd.step, List.length_append, List.length_take]; simp; lia
    · simp only [Rd.step]; rw [List.take_append_of_le_length (by rw [List.length_take]; lia), List.take_take, Nat.min_self]
    · intro j hj
      simp only [Rd.step, List.mem_append, List.mem_singleton] at hj ⊢
      rcases hj with hj | hj
      · have := hi j (List.mem_of_mem_take hj); lia
      · lia
    · simp only [Rep, Rd.step, hp]
      exact ⟨up_self .., by rw [up_ne _ _ (by lia), up_self]⟩
    · simp only [Rd.step, hp]
    · simp only [Rd.step, hp]; rw [up_self]
    · intro j h1 h2; simp only [Rd.step, hp]; rw [up_ne _ _ h2, up_ne _ _ (by lia)]
  | .node n cs, s, d, p, l, hd, hi, hp, h => by
    have hpn : p < s.n := hi p (List.mem_of_mem_take (last_mem hp))
    simp only [Tr.flat, List.cons_append]
    refine ⟨hd, ?_⟩
    have hline : (s.step (d, n)).line = s.line.take d ++ [s.n] := rfl
    have hlen : (s.line.take d).length = d := by rw [List.length_take]; lia
    have hi1 : (s.step (d, n)).inv := fun j hj => by
      simp only [Rd.step, List.mem_append, List.mem_singleton] at hj ⊢
      rcases hj with hj | hj
      · have := hi j (List.mem_of_mem_take hj); lia
      · lia
    have htk : (s.step (d, n)).line.take (d + 1) = s.line.take d ++ [s.n] := by rw [hline, List.take_of_length_le (by rw [List.length_append, hlen]; simp)]
    refine Fo.run cs (s.step (d, n)) (d + 1) s.n l (by rw [hline, List.length_append, hlen]; simp) hi1 (by rw [htk]; simp) fun s' a b c => ?_
    have e1 : (s.step (d, n)).n = s.n + 1 := rfl
    refine h s' ⟨?_, ?_, ?_, ?_, a.inv⟩ ?_ ⟨?_, ?_, ?_⟩
    · rw [a.n, e1]; simp only [Tr.size]; lia
    · have := a.len; lia
    · have := congrArg (List.take d) a.line
      rw [htk, List.take_take, Nat.min_eq_left (Nat.le_succ _), List.take_append_of_le_length (by lia), List.take_take, Nat.min_self] at this
      exact this
    · intro j hj; rw [a.hd j (by rw [e1]; lia)]; exact up_ne _ _ (by lia)
    · rw [Rep_eq]
      refine ⟨?_, ?_, b⟩
      · rw [a.hd s.n (by rw [e1]; lia)]; exact up_self ..
      · rw [c.at_, e1]
        have : (s.step (d, n)).kd s.n = [] := by simp only [Rd.step, hp]; rw [up_ne _ _ (by lia), up_self]
        rw [this]; rfl
    · rw [c.roots]; simp only [Rd.step, hp]
    · rw [c.off p (by rw [e1]; lia) (by lia)]; simp only [Rd.step, hp]; rw [up_self]
    · intro j h1 h2; rw [c.off j (by rw [e1]; lia) (by lia)]; simp only [Rd.step, hp]; rw [up_ne _ _ h2, up_ne _ _ (by lia)]
theorem Fo.run {F : Rd → Prop} : ∀ (f : Fo) (s : Rd) (d p : Nat) (l : List (Nat × Str)), d ≤ s.line.length → s.inv → (s.line.take d).getLast? = some p →
    (∀ s', Sp s d f.size s' → RepF s' f s.n → Hung s p (f.offs s.n) s' → RunsR F s' l) → RunsR F s (f.flat d ++ l)
  | .nil, s, d, p, l, hd, hi, hp, h => by
    simp only [Fo.flat, List.nil_append]
    exact h s ⟨by simp [Fo.size], hd, rfl, fun _ _ => rfl, hi⟩ (by simp only [RepF]) ⟨rfl, by simp [Fo.offs], fun _ _ _ => rfl⟩
  | .cons t f, s, d, p, l, hd, hi, hp, h => by
    have hpn : p < s.n := hi p (List.mem_of_mem_take (last_mem hp))
    simp only [Fo.flat, List.append_assoc]
    refine Tr.run t s d p _ hd hi hp fun s1 a1 b1 c1 => ?_
    refine Fo.run f s1 d p l a1.len a1.inv (by rw [a1.line]; exact hp) fun s2 a2 b2 c2 => ?_
    have hn := a1.n
    refine h s2 ⟨?_, a2.len, a2.line.trans a1.line, fun j hj => (a2.hd j (by lia)).trans (a1.hd j hj), a2.inv⟩ ?_ ⟨c2.roots.trans c1.roots, ?_, fun j h1 h2 => (c2.off j (by lia) h2).trans (c1.off j h1 h2)⟩
    · rw [a2.n, a1.n]; simp only [Fo.size]; lia
    · simp only [RepF]
      refine ⟨Rep.same t s.n (fun j h1 h2 => ⟨a2.hd j (by lia), c2.off j (by lia) (by lia)⟩) b1, ?_⟩
      rw [a1.n] at b2; exact b2
    · rw [c2.at_, c1.at_, a1.n]; simp [Fo.offs]
end
/-- a whole tree from nothing -/
theorem Tr.run0 {F : Rd → Prop} (t : Tr) (h : ∀ s', s'.n = t.size → s'.roots = [0] → Rep s' t 0 → F s') : RunsR F Rd.zero (t.flat 0) := by
  rw [Tr.flat_eq]
  refine ⟨Nat.zero_le _, ?_⟩
  have hi1 : (Rd.zero.step (0, t.head)).inv := fun j hj => by
    simp only [Rd.step, Rd.zero] at hj ⊢
    simp at hj; lia
  have := Fo.run (F := F) t.kids (Rd.zero.step (0, t.head)) 1 0 [] (by simp [Rd.step]) hi1 (by simp [Rd.step, Rd.zero]) fun s' a b c => by
    refine h s' ?_ ?_ ?_
    · rw [a.n, Tr.size_eq]; rfl
    · rw [c.roots]; rfl
    · rw [Rep_eq]
      exact ⟨(a.hd 0 Nat.zero_lt_one).trans rfl, c.at_.trans rfl, b⟩
  simpa using this

theorem row_blank {p : Nat × Str} (hh : okHead p.2) {c : Int} (h0 : 0 ≤ c) (h1 : c ≤ 2 * p.1) : Txt.slice (rowOf p) (some c) (some (c + 1)) = Str.ofString " " ↔ c < 2 * p.1 := by
  obtain ⟨_, _, a, r, e, ha⟩ := hh
  have hlen : (rowOf p).cps.toList.length = 2 * p.1 + (r.length + 1) := by rw [rowOf_cps, List.length_append, List.length_replicate, e]; rfl
  have hs := beq_iff_eq.mp (slice_closes (x := rowOf p) (i := c) (j := c + 1) ⟨h0, by lia, by rw [hlen]; lia⟩)
  have e1 : (c + 1 - c).toNat = 1 := by lia
  rw [hs, e1]
  constructor
  · intro hb
    have h2 := congrArg (fun s => s.cps.toList) hb
    simp only [cps_blank] at h2
    rw [rowOf_cps, e] at h2
    by_cases hc : c < 2 * p.1
    · exact hc
    · have e2 : c.toNat = 2 * p.1 := by lia
      rw [e2, List.drop_left' (by rw [List.length_replicate])] at h2
      simp at h2; exact absurd h2 ha
  · intro hc
    refine str_ext ?_
    rw [cps_blank]
    show List.take 1 (List.drop c.toNat (rowOf p).cps.toList) = [32]
    rw [rowOf_cps, List.drop_append_of_le_length (by rw [List.length_replicate]; lia), List.drop_replicate]
    have e3 : 2 * p.1 - c.toNat = (2 * p.1 - c.toNat - 1) + 1 := by lia
    rw [e3, List.replicate_succ]; rfl
theorem row_rest {p : Nat × Str} {c : Int} (hc : c = 2 * p.1) : Txt.slice (rowOf p) (some c) none = p.2 := by
  subst hc
  have hl : (rowOf p).length = 2 * p.1 + p.2.length := rowOf_len p
  rw [slice_from_eq (b := ((rowOf p).length : Int)) (by lia) (by rw [hl]; push_cast; lia) rfl]
  refine str_ext ?_
  have e2 : (2 * (p.1 : Int)).toNat = 2 * p.1 := by lia
  show List.take _ (List.drop _ (rowOf p).cps.toList) = _
  rw [e2, rowOf_cps, List.drop_left' (by rw [List.length_replicate]), List.take_of_length_le]
  rw [hl, len_cps]; push_cast; lia
section
variable {Γ : Wd} {A : Around} {E : Value → Shared → Prop} {s₀ : Shared} {hh : Heap} {tk : Nat} {env : Env} {o : Og} {g g' : View} {m : Nm} {mu mu2 : Mus} {x : Str} {v : Value} {pos : Pos} {l : Addr} {vs ws : List Value}
theorem St.perm (S : St o g m mu hh) (p : mu.Perm mu2) : St o g m mu2 hh := ⟨S.ns, S.gr, S.hid, fun q hq => S.mus q (p.mem_iff.mpr hq), (p.map _).nodup_iff.mp S.nd⟩
theorem slsS {value slice : Expr} {t ui uj : Tok} {i j : Int} {Q : Value → Shared → Prop} (S : St o g m mu hh) (hz : x.length ≤ sizeLine) (h : ∀ h' t' tk', St o g m mu h' → Q (.str (Txt.slice x (some i) (some j)) t') (sh s₀ h' tk'))
    (hs : subscripted slice false (.str x t) (.ref (sh s₀ hh tk).heap.objs.size) = operate [.ref (sh s₀ hh tk).heap.objs.size, .str x t] (getItem (.str x t) (.ref (sh s₀ hh tk).heap.objs.size)) := by with_unfolding_all rfl)
    (ht : ∀ r, letTemporaryGo value (.str x t) r = pure () := by intro _; with_unfolding_all rfl) :
    wpAny Γ.M A (subscriptTail value slice (.str x t) (.ref (sh s₀ hh tk).heap.objs.size)) Q E { sh s₀ hh tk with heap := (sh s₀ hh tk).heap.push { cls := .type "slice", data := .fields #[.int i ui, .int j uj, .none] } } :=
  tail_of_ItemOn (SBH.sliceItem_ss (s := sh s₀ hh tk) (P := fun h' => ∀ b ob, hh.get? b = some ob → h'.get? b = some ob) (fun h ob p b o e => Heap.get?_push_of_some _ (p b o e)) (fun _ _ e => e) (fun h' t' k p => h h' t' k (S.after (keepsGrow S.sub p))) hz) hs ht
theorem slsF {value slice : Expr} {t ui : Tok} {i : Int} {Q : Value → Shared → Prop} (S : St o g m mu hh) (hz : x.length ≤ sizeLine) (h : ∀ h' t' tk', St o g m mu h' → Q (.str (Txt.slice x (some i) none) t') (sh s₀ h' tk'))
    (hs : subscripted slice false (.str x t) (.ref (sh s₀ hh tk).heap.objs.size) = operate [.ref (sh s₀ hh tk).heap.objs.size, .str x t] (getItem (.str x t) (.ref (sh s₀ hh tk).heap.objs.size)) := by with_unfolding_all rfl)
    (ht : ∀ r, letTemporaryGo value (.str x t) r = pure () := by intro _; with_unfolding_all rfl) :
    wpAny Γ.M A (subscriptTail value slice (.str x t) (.ref (sh s₀ hh tk).heap.objs.size)) Q E { sh s₀ hh tk with heap := (sh s₀ hh tk).heap.push { cls := .type "slice", data := .fields #[.int i ui, .none, .none] } } :=
  tail_of_ItemOn (SBH.sliceItem_sn (s := sh s₀ hh tk) (P := fun h' => ∀ b ob, hh.get? b = some ob → h'.get? b = some ob) (fun h ob p b o e => Heap.get?_push_of_some _ (p b o e)) (fun _ _ e => e) (fun h' t' k p => h h' t' k (S.after (keepsGrow S.sub p))) hz) hs ht
theorem lastL {s : Shared} {value slice : Expr} {u : Tok} {Q : Value → Shared → Prop} (hl : s.heap.PlainList l (vs ++ [v]).toArray) (hz : vs.length ≤ 1000000) (h : Q v s)
    (hs : subscripted slice false (.ref l) (.int (-1) u) = operate [.ref l, .int (-1) u] (getItem (.ref l) (.int (-1) u)) := by with_unfolding_all rfl) :
    wpAny Γ.M A (subscriptTail value slice (.ref l) (.int (-1) u)) Q E s :=
  tail_any hl.isList.typeIs slot_list_getitem.lookup (wpAny_getItem_list_neg hl.isList (by lia) (by simp; lia) (by lia) (by
    have e : (-1 + ((vs ++ [v]).toArray.size : Int)).toNat = vs.length := by simp; lia
    rw [e]; simp) h) hs
end
def refs (na : Nat → Addr) (l : List Nat) : List Value := l.map fun j => .ref (na j)
theorem refs_append (na : Nat → Addr) (a b : List Nat) : refs na (a ++ b) = refs na a ++ refs na b := by simp [refs]
theorem refs_up (na : Nat → Addr) {l : List Nat} {n : Nat} {a : Addr} (h : ∀ j ∈ l, j < n) : refs (up na n a) l = refs na l := List.map_congr_left fun j hj => by rw [up_ne _ _ (by have := h j hj; lia)]
def kmu (na ka : Nat → Addr) (kd : Nat → List Nat) (n : Nat) : Mus := (List.range n).map fun j => (ka j, refs na (kd j))
theorem range_cut {n j : Nat} (hj : j < n) : List.range n = List.range j ++ j :: (List.range n).drop (j + 1) := by
  have h := (List.take_append_drop j (List.range n)).symm
  rw [List.take_range, Nat.min_eq_left (Nat.le_of_lt hj), List.drop_eq_getElem_cons (by simpa using hj)] at h
  simpa using h
theorem range_at {α : Type} {n j : Nat} (hj : j < n) (f : Nat → α) : ∃ post, (List.range n).map f = (List.range j).map f ++ f j :: post ∧ ∀ f', (∀ i, j < i → i < n → f' i = f i) → (List.range n).map f' = (List.range j).map f' ++ f' j :: post := by
  refine ⟨((List.range n).drop (j + 1)).map f, ?_, fun f' h => ?_⟩
  · conv => lhs; rw [range_cut hj]
    rw [List.map_append, List.map_cons]
  · conv => lhs; rw [range_cut hj]
    rw [List.map_append, List.map_cons]
    congr 2
    refine List.map_congr_left fun i hi => ?_
    obtain ⟨k, hk, e⟩ := List.mem_iff_getElem.mp hi
    rw [List.length_drop, List.length_range] at hk
    rw [List.getElem_drop, List.getElem_range] at e
    exact h i (by lia) (by omega)
def Rd.inv2 (s : Rd) : Prop := (∀ j ∈ s.line, j < s.n) ∧ (∀ j ∈ s.roots, j < s.n) ∧ ∀ j, j < s.n → ∀ c ∈ s.kd j, c < s.n
theorem Rd.step_inv {s : Rd} (h : s.inv2) (p : Nat × Str) : (s.step p).inv2 := by
  obtain ⟨h1, h2, h3⟩ := h
  have hl : ∀ j ∈ s.line.take p.1, j < s.n := fun j hj => h1 j (List.mem_of_mem_take hj)
  refine ⟨fun j hj => ?_, fun j hj => ?_, fun j hj c hc => ?_⟩
  · simp only [Rd.step, List.mem_append, List.mem_singleton] at hj ⊢
    rcases hj with hj | hj
    · have := hl j hj; lia
    · lia
  · simp only [Rd.step] at hj ⊢
    split at hj
    · rcases List.mem_append.mp hj with hj | hj
      · have := h2 j hj; lia
      · have := List.mem_singleton.mp hj; lia
    · have := h2 j hj; lia
  · simp only [Rd.step] at hj hc ⊢
    have old : ∀ c, c ∈ up s.kd s.n [] j → c < s.n + 1 := fun c hc => by
      by_cases e : j = s.n
      · subst e; rw [up_self] at hc; simp at hc
      · rw [up_ne _ _ e] at hc; have := h3 j (by lia) c hc; lia
    cases hq : (s.line.take p.1).getLast? with
    | none => rw [hq] at hc; exact old c hc
    | some q =>
      rw [hq] at hc
      simp only at hc
      by_cases e : j = q
      · subst e
        rw [up_self] at hc
        rcases List.mem_append.mp hc with hc | hc
        · have := h3 j (hl j (last_mem hq)) c hc; lia
        · have := List.mem_singleton.mp hc; lia
      · rw [up_ne _ _ e] at hc; exact old c hc

mutual
def NeH (h : Heap) : Tr → Value → Prop
  | .leaf k t, v => ∃ a tk l, v = .ref a ∧ h.PlainList a [Value.str (Tr.leaf k t).head tk, .ref l].toArray ∧ h.PlainList l ([] : List Value).toArray
  | .node n cs, v => ∃ a tk l vs, v = .ref a ∧ h.PlainList a [Value.str n tk, .ref l].toArray ∧ h.PlainList l (List.toArray vs) ∧ NeHs h cs vs
def NeHs (h : Heap) : Fo → List Value → Prop
  | .nil, vs => vs = []
  | .cons t r, vs => ∃ v ws, vs = v :: ws ∧ NeH h t v ∧ NeHs h r ws
end
mutual
theorem Rep.neH {h : Heap} {s : Rd} {na ka : Nat → Addr} (hl : ∀ j, j < s.n → ∃ tok, h.PlainList (na j) [Value.str (s.hd j) tok, .ref (ka j)].toArray) (hk : ∀ j, j < s.n → h.PlainList (ka j) (refs na (s.kd j)).toArray) : ∀ (t : Tr) (i : Nat), i + t.size ≤ s.n → Rep s t i → NeH h t (.ref (na i))
  | .leaf k x, i, hi, r => by
    simp only [Tr.size] at hi
    simp only [Rep] at r
    obtain ⟨tok, e⟩ := hl i (by lia)
    have e2 := hk i (by lia)
    rw [r.1] at e
    rw [r.2] at e2
    simp only [NeH]
    exact ⟨_, tok, _, rfl, e, e2⟩
  | .node n cs, i, hi, r => by
    simp only [Tr.size] at hi
    simp only [Rep] at r
    obtain ⟨tok, e⟩ := hl i (by lia)
    have e2 := hk i (by lia)
    rw [r.1] at e
    rw [r.2.1] at e2
    simp only [NeH]
    exact ⟨_, tok, _, _, rfl, e, e2, RepF.neH hl hk cs (i + 1) (by lia) r.2.2⟩
theorem RepF.neH {h : Heap} {s : Rd} {na ka : Nat → Addr} (hl : ∀ j, j < s.n → ∃ tok, h.PlainList (na j) [Value.str (s.hd j) tok, .ref (ka j)].toArray) (hk : ∀ j, j < s.n → h.PlainList (ka j) (refs na (s.kd j)).toArray) : ∀ (f : Fo) (i : Nat), i + f.size ≤ s.n → RepF s f i → NeHs h f (refs na (f.offs i))
  | .nil, i, hi, r => by simp [NeHs, Fo.offs, refs]
  | .cons t f, i, hi, r => by
    simp only [Fo.size] at hi
    simp only [RepF] at r
    simp only [NeHs, Fo.offs]
    exact ⟨_, _, rfl, Rep.neH hl hk t i (by lia) r.1, RepF.neH hl hk f (i + t.size) (by lia) r.2⟩
end
def RFin (t : Tr) (s : Rd) : Prop := s.n = t.size ∧ s.roots = [0] ∧ Rep s t 0
def Rd.lens (s : Rd) (i : Nat) : Prop := s.line.length ≤ i ∧ s.roots.length ≤ i ∧ ∀ j, j < s.n → (s.kd j).length ≤ i
theorem Rd.step_lens {s : Rd} {i : Nat} (hi : s.inv2) (h : s.lens i) (p : Nat × Str) : (s.step p).lens (i + 1) := by
  obtain ⟨h1, h2, h3⟩ := h
  refine ⟨?_, ?_, fun j hj => ?_⟩
  · simp only [Rd.step, List.length_append, List.length_take]; simp; lia
  · simp only [Rd.step]
    cases hq : (s.line.take p.1).getLast? with
    | none => simp; omega
    | some q => simp; lia
  · simp only [Rd.step] at hj ⊢
    have old : (up s.kd s.n [] j).length ≤ i := by
      by_cases e : j = s.n
      · subst e; rw [up_self]; simp
      · rw [up_ne _ _ e]; exact h3 j (by lia)
    cases hq : (s.line.take p.1).getLast? with
    | none => simp only; lia
    | some q =>
      have hqn := hi.1 q (List.mem_of_mem_take (last_mem hq))
      simp only
      by_cases e : j = q
      · subst e; rw [up_self, List.length_append]; have := h3 j hqn; simp; omega
      · rw [up_ne _ _ e]; lia
def RJ (t : Tr) (ra : Addr) (i : Nat) (g : View) (m : Nm) (mu : Mus) : Prop :=
  ∃ (σ : Rd) (la : Addr) (na ka : Nat → Addr), m (Str.ofString "roots") = some (.ref ra) ∧ m (Str.ofString "line") = some (.ref la) ∧ mu = (la, refs na σ.line) :: (ra, refs na σ.roots) :: kmu na ka σ.kd σ.n ∧
    (∀ j, j < σ.n → ∃ tok, LV g (na j) [.str (σ.hd j) tok, .ref (ka j)]) ∧ σ.inv2 ∧ σ.n = i ∧ σ.lens i ∧ RunsR (RFin t) σ ((t.flat 0).drop i)
def WJ (row : Value) (ra la : Addr) (mu0 : Mus) (d k : Nat) (g : View) (m : Nm) (mu : Mus) : Prop :=
  m (Str.ofString "row") = some row ∧ m (Str.ofString "roots") = some (.ref ra) ∧ m (Str.ofString "line") = some (.ref la) ∧ mu = mu0 ∧ ∃ c tok, m (Str.ofString "deep") = some (.int c tok) ∧ 0 ≤ c ∧ c ≤ 2 * (d : Int) ∧ k = (2 * (d : Int) - c).toNat
theorem kmu_end {s : Rd} (hi : s.inv2) (na ka : Nat → Addr) (p : Nat × Str) (aN kN : Addr) : kmu (up na s.n aN) (up ka s.n kN) (s.step p).kd (s.step p).n = ((List.range s.n).map fun j => (ka j, refs (up na s.n aN) ((s.step p).kd j))) ++ [(kN, [])] := by
  have e : (s.step p).n = s.n + 1 := rfl
  unfold kmu
  rw [e, List.range_succ, List.map_append]
  congr 1
  · exact List.map_congr_left fun j hj => by rw [up_ne _ _ (by have := List.mem_range.mp hj; lia)]
  · have : (s.step p).kd s.n = [] := by
      simp only [Rd.step]
      cases hq : (s.line.take p.1).getLast? with
      | none => exact up_self ..
      | some q =>
        have := hi.1 q (List.mem_of_mem_take (last_mem hq))
        simp only
        rw [up_ne _ _ (by lia), up_self]
    simp [up_self, this, refs]
theorem step_none {s : Rd} (hi : s.inv2) (na ka : Nat → Addr) {p : Nat × Str} (aN : Addr) (hq : (s.line.take p.1).getLast? = none) :
    ((List.range s.n).map fun j => (ka j, refs (up na s.n aN) ((s.step p).kd j))) = kmu na ka s.kd s.n ∧ refs (up na s.n aN) (s.step p).roots = refs na s.roots ++ [.ref aN] := by
  constructor
  · refine List.map_congr_left fun j hj => ?_
    have hj' := List.mem_range.mp hj
    have : (s.step p).kd j = s.kd j := by simp only [Rd.step, hq]; rw [up_ne _ _ (by lia)]
    rw [this, refs_up _ (hi.2.2 j hj')]
  · have : (s.step p).roots = s.roots ++ [s.n] := by simp only [Rd.step, hq]
    rw [this, refs_append, refs_up _ hi.2.1]
    simp [refs, up_self]
theorem step_some {s : Rd} (hi : s.inv2) (na ka : Nat → Addr) {p : Nat × Str} (aN : Addr) {q : Nat} (hq : (s.line.take p.1).getLast? = some q) :
    q < s.n ∧ refs (up na s.n aN) (s.step p).roots = refs na s.roots ∧ ∃ pre post, kmu na ka s.kd s.n = pre ++ (ka q, refs na (s.kd q)) :: post ∧
      ((List.range s.n).map fun j => (ka j, refs (up na s.n aN) ((s.step p).kd j))) = pre ++ (ka q, refs na (s.kd q) ++ [.ref aN]) :: post := by
  have hqn := hi.1 q (List.mem_of_mem_take (last_mem hq))
  have hr : (s.step p).roots = s.roots := by simp only [Rd.step, hq]
  have hk : ∀ j, j < s.n → j ≠ q → (s.step p).kd j = s.kd j := fun j h1 h2 => by simp only [Rd.step, hq]; rw [up_ne _ _ h2, up_ne _ _ (by lia)]
  have hkq : (s.step p).kd q = s.kd q ++ [s.n] := by simp only [Rd.step, hq]; rw [up_self]
  obtain ⟨post, e1, e2⟩ := range_at hqn (fun j => (ka j, refs na (s.kd j)))
  refine ⟨hqn, by rw [hr, refs_up _ hi.2.1], _, post, e1, ?_⟩
  rw [e2 (fun j => (ka j, refs (up na s.n aN) ((s.step p).kd j))) fun j h1 h2 => by rw [hk j h2 (by lia), refs_up _ (hi.2.2 j h2)]]
  congr 1
  · refine List.map_congr_left fun j hj => ?_
    have := List.mem_range.mp hj
    rw [hk j (by lia) (by lia), refs_up _ (hi.2.2 j (by lia))]
  · rw [hkq, refs_append, refs_up _ (hi.2.2 q hqn)]
    simp [refs, up_self]
theorem step_line {s : Rd} (hi : s.inv2) (na : Nat → Addr) (p : Nat × Str) (aN : Addr) : refs (up na s.n aN) (s.step p).line = refs na (s.line.take p.1) ++ [.ref aN] := by
  have : (s.step p).line = s.line.take p.1 ++ [s.n] := rfl
  rw [this, refs_append, refs_up _ fun j hj => hi.1 j (List.mem_of_mem_take hj)]
  simp [refs, up_self]
theorem opt_cases {α : Type} (x : Option α) : x = none ∨ ∃ a, x = some a := by cases x <;> simp
theorem end_perm {X R : List Value} {la kN ra : Addr} {K : Mus} : List.Perm ((la, X) :: (kN, []) :: (ra, R) :: K) ((la, X) :: (ra, R) :: (K ++ [(kN, [])])) := by
  refine List.Perm.cons _ ((List.Perm.swap ..).trans (List.Perm.cons _ ?_))
  exact (List.perm_append_singleton _ _).symm
theorem if_mid {c : Prop} [Decidable c] {M : Model} {A : Around} {b1 b2 : List Stmt} {env : Env} {E : Value → Shared → Prop} {s : Shared} {Q Q' : Flow → Shared → Prop} (h : if c then wpAny M A (execs b1 env) Q' E s else wpAny M A (execs b2 env) Q' E s) (hm : ∀ f s', Q' f s' → Q f s') :
    if c then wpAny M A (execs b1 env) Q E s else wpAny M A (execs b2 env) Q E s := by
  split at h
  · rename_i hc; rw [if_pos hc]; exact wpAny_mono h hm fun _ _ e => e
  · rename_i hc; rw [if_neg hc]; exact wpAny_mono h hm fun _ _ e => e
def AppTo (Γ : Wd) (A : Around) (E : Value → Shared → Prop) (e : Expr) (env : Env) (Q : Flow → Shared → Prop) (ov : Value) (s₁ : Shared) : Prop := ∃ l ws, ov = .ref l ∧ s₁.heap.PlainList l ws ∧ wpAny Γ.M A (eval e env) (AppOn l Q) E s₁
theorem appendX {Γ : Wd} {A : Around} {E : Value → Shared → Prop} {env : Env} {pos : Pos} {s : Shared} {ob e : Expr} {apos cpos : Pos} {Q : Flow → Shared → Prop} (h : wpAny Γ.M A (eval ob env) (AppTo Γ A E e env Q) E s)
    (hbase : attributeBase ob (Str.ofString "append") env (eval ob env) = eval ob env := by rfl)
    (hfew : ((backTo cpos (starEach [e] env)).all (fun x => !x.1) && (backToKw cpos (keywordEach [] env)).all (fun x => x.1.isSome)
      && decide (([e] : List Expr).length + ([] : List Keyword).length + (if ([] : List Keyword).isEmpty then 0 else 1) < 30)) = true := by rfl)
    (hline : (apos.endLine == cpos.line) = true := by rfl) (he : starEach [e] env = [(false, eval e env)] := by rfl)
    (hi : interactive env = false := by rfl) (hs : swapsWith (.Call (.Attribute ob (Str.ofString "append") apos) [e] [] cpos) none pos.line env = pure false := by rfl) :
    wpAny Γ.M A (exec (.Expr (.Call (.Attribute ob (Str.ofString "append") apos) [e] [] cpos) pos) env) Q E s := appendS h hbase hfew hline he hi hs
section
variable {Γ : Wd} {g : View}
theorem read_ok (O : Γ.On g) {A : Around} {s₀ : Shared} {hh : Heap} {tk : Nat} {Q E : Value → Shared → Prop} {t : Tr} {l : Addr} {vs : List Value} (r : Rm A 2) (hs : Sub g hh) (hl : LV g l vs) (hv : StrsAre vs ((t.flat 0).map rowOf)) (hw : t.wide) (hz : t.size ≤ 1000) (hd : t.dep ≤ 100)
    (ret : ∀ ra x h' tk' g', Grow [] hh g h' g' → h'.PlainList ra [x].toArray → NeH h' t x → Q (.ref ra) (sh s₀ h' tk')) :
    wpAny Γ.M A (call (.ref 213) [.ref l]) Q E (sh s₀ hh tk) := by
  refine enter (mu := []) (W := []) (binds := [(Str.ofString "rows", .ref l)]) O hs r (by rfl) (by rfl) (BindsTo.of_eq (by rfl)) (by simp) (by simp) (by decide) (by rfl) fun h₁ tk L S B => ?_
  have r' : ∀ env, Rm (A.deeper env) 1 := fun env => r.deeper
  have hvl := hv.len_eq
  rw [List.length_map, Tr.flat_len] at hvl
  refine wpAny_execs_cons ?_
  refine wpAny_Assign_Name ?_
  refine PyProof.Rows.List_ ?_
  refine wpAny_items_nil ?_
  refine newListM S (by simp) fun ra h2 S => stor S fun h2 tk2 S => ?_
  refine wpAny_execs_cons ?_
  refine wpAny_Assign_Name ?_
  refine PyProof.Rows.List_ ?_
  refine wpAny_items_nil ?_
  refine newListM S (by simp) fun la0 h2 S => stor S fun h2 tk2 S => ?_
  refine wpAny_execs_cons (for_start ?_)
  refine Mine.nm (by assumption) rfl ?_
  refine for_list S (r' _).1 hl (RJ t ra) ⟨Rd.zero, la0, fun _ => 0, fun _ => 0, rfl, rfl, rfl, fun j hj => absurd hj (Nat.not_lt_zero _), ⟨fun j hj => by simp [Rd.zero] at hj, fun j hj => by simp [Rd.zero] at hj, fun j hj => absurd hj (Nat.not_lt_zero _)⟩, rfl, ⟨Nat.le_refl _, Nat.le_refl _, fun j hj => absurd hj (Nat.not_lt_zero _)⟩, by rw [List.drop_zero]; exact Tr.run0 t fun s' a b c => ⟨a, b, c⟩⟩ ?_ ?_
  · intro i v g1 m1 mu1 h3 tk3 E' hiv hj hle S1
    refine Exists.elim hj fun σ e => Exists.elim e fun la e => Exists.elim e fun na e => Exists.elim e fun ka hj => ?_
    have hmr := hj.1
    have hml := hj.2.1
    have S2 := S1.mu_eq hj.2.2.1
    have hnd := hj.2.2.2.1
    have hinv := hj.2.2.2.2.1
    have hn := hj.2.2.2.2.2.1
    have hlens := hj.2.2.2.2.2.2.1
    have hll := hlens.1
    have hruns := hj.2.2.2.2.2.2.2
    have hi := (List.getElem?_eq_some_iff.mp hiv).1
    refine Exists.elim (hv.item i v hiv) fun y e => Exists.elim e fun ty hvy => ?_
    have hiy := hvy.2
    rw [List.getElem?_map] at hiy
    refine Exists.elim (Option.map_eq_some_iff.mp hiy) fun p hp => ?_
    have hpm := Tr.flat_mem 0 t hw p (List.mem_of_getElem? hp.1)
    have hdrop : (t.flat 0).drop i = p :: (t.flat 0).drop (i + 1) := by
      have h1 := List.getElem?_eq_some_iff.mp hp.1
      rw [List.drop_eq_getElem_cons h1.1, h1.2]
    rw [hdrop] at hruns
    have hdl := hruns.1
    have hruns2 := hruns.2
    have hpd : p.1 ≤ 100 := by have := hpm.2.1; lia
    have hrow : v = .str (rowOf p) ty := by rw [hvy.1, ← hp.2]
    have hrl : (rowOf p).length ≤ 300 := by rw [rowOf_len]; have := hpm.2.2.1; lia
    refine wpAny_execs_cons ?_
    refine wpAny_Assign_Name ?_
    refine cInt fun _ _ => ?_
    refine stor S2 fun h4 tk4 S2 => ?_
    refine wpAny_execs_cons (while_walk S2 (WJ v ra la ((la, refs na σ.line) :: (ra, refs na σ.roots) :: kmu na ka σ.kd σ.n) p.1) (WJ v ra la ((la, refs na σ.line) :: (ra, refs na σ.roots) :: kmu na ka σ.kd σ.n) p.1 0) (2 * p.1) ⟨rfl, hmr, hml, rfl, 0, _, rfl, Int.le_refl _, by lia, by omega⟩ ?_ ?_)
    · intro k g2 m2 mu2 h5 tk5 E5 hj5 hle5 S5
      refine Exists.elim hj5.2.2.2.2 fun c e => Exists.elim e fun tc hc => ?_
      refine wpAny_isTrue_Compare1 ?_
      refine Subscript_ ?_
      refine nm S5 (show _ = some (.str (rowOf p) ty) from hrow ▸ hj5.1) ?_
      refine wpAny_Slice ?_
      refine partSome ?_
      refine nm S5 hc.1 ?_
      refine partSome ?_
      refine wpAny_BinOp ?_
      refine nm S5 hc.1 ?_
      refine cInt fun _ _ => ?_
      refine addI fun _ _ => ?_
      refine wpAny_pure ?_
      refine slsS S5 (by rw [sizeLine_eq]; lia) fun h6 t6 tk6 S5 => ?_
      refine cStr fun _ _ => ?_
      refine PyProof.Rows.eq_str ?_
      refine wpAny_truthy_bool ?_
      by_cases hlt : c < 2 * (p.1 : Int)
      · refine ite_pos (by simpa using (row_blank hpm.2.2 hc.2.1 hc.2.2.1).mpr hlt) ?_
        refine wpAny_execs_cons ?_
        refine wpAny_Assign_Name ?_
        refine wpAny_BinOp ?_
        refine nm S5 hc.1 ?_
        refine cInt fun _ _ => ?_
        refine addI fun _ _ => ?_
        refine stor S5 fun h7 tk7 S5 => ?_
        refine wpAny_execs_nil ?_
        exact ⟨rfl, (2 * (p.1 : Int) - (c + 1)).toNat, by have := hc.2.2.2; omega, FAfter.of S5 ⟨hj5.1, hj5.2.1, hj5.2.2.1, hj5.2.2.2.1, c + 1, _, rfl, by lia, by lia, rfl⟩⟩
      · refine ite_neg (by simpa using fun h => hlt ((row_blank hpm.2.2 hc.2.1 hc.2.2.1).mp h)) ?_
        exact FAfter.of S5 ⟨hj5.1, hj5.2.1, hj5.2.2.1, hj5.2.2.2.1, c, tc, hc.1, hc.2.1, hc.2.2.1, by lia⟩
    · intro h5 tk5 g2 m2 mu2 hj5 hle5 S5
      refine Exists.elim hj5.2.2.2.2 fun c e => Exists.elim e fun tc hc => ?_
      have hc2 : c = 2 * (p.1 : Int) := by have := hc.2.2.2; have := hc.2.2.1; omega
      have S6 := S5.mu_eq hj5.2.2.2.1
      have hmr2 := hj5.2.1
      have hml2 := hj5.2.2.1
      have hmrow := hj5.1
      have hmd := hc.1
      clear hj5 S5
      refine wpAny_execs_cons ?_
      refine wpAny_Assign_Name ?_
      refine PyProof.Rows.List_ ?_
      refine wpAny_items_cons ?_
      refine Subscript_ ?_
      refine nm S6 (show _ = some (.str (rowOf p) ty) from hrow ▸ hmrow) ?_
      refine wpAny_Slice ?_
      refine partSome ?_
      refine nm S6 hmd ?_
      refine wpAny_pure ?_
      refine wpAny_pure ?_
      refine slsF S6 (by rw [sizeLine_eq]; lia) fun h6 t6 tk6 S6 => ?_
      refine wpAny_items_cons ?_
      refine PyProof.Rows.List_ ?_
      refine wpAny_items_nil ?_
      refine newListM S6 (by simp) fun kN h7 S6 => ?_
      refine wpAny_items_nil ?_
      refine newListI S6 (by simp) fun aN h8 g3 hle8 hl8 S6 => ?_
      refine stor S6 fun h9 tk9 S6 => ?_
      have hrest := row_rest (p := p) hc2
      have hmd2 : (c : Int).fmod 2 = 0 := by rw [hc2, Int.fmod_eq_emod_of_nonneg _ (by lia)]; lia
      have hdv : (c : Int).fdiv 2 = (p.1 : Int) := by rw [hc2, Int.fdiv_eq_ediv_of_nonneg _ (by lia)]; lia
      refine wpAny_execs_cons ?_
      refine wpAny_If ?_
      refine wpAny_isTrue_BoolOp ?_
      refine wpAny_allTrue_Or_cons ?_
      refine wpAny_isTrue_Compare1 ?_
      refine wpAny_BinOp ?_
      refine nm S6 hmd ?_
      refine cInt fun _ _ => ?_
      refine modI (by lia) fun _ _ => ?_
      refine cInt fun _ _ => ?_
      refine PyProof.Rows.ne_int ?_
      refine wpAny_truthy_bool ?_
      refine ite_neg (by simpa using hmd2) ?_
      refine wpAny_allTrue_Or_cons ?_
      refine wpAny_isTrue_Compare1 ?_
      refine wpAny_BinOp ?_
      refine nm S6 hmd ?_
      refine cInt fun _ _ => ?_
      refine divI (by lia) (by lia) fun _ _ => ?_
      skip
      refine callB (((O.mono hle).mono hle5).mono hle8) S6.sub b_len bb_len (by decide) ?_
      refine wpAny_items_cons ?_
      refine nm S6 hml2 ?_
      refine wpAny_items_nil ?_
      refine lenL S6.mu1 (by simp [refs]; lia) fun _ _ => ?_
      refine PyProof.Rows.gt_int ?_
      refine wpAny_truthy_bool ?_
      refine ite_neg (by rw [hdv]; simp [refs]; omega) ?_
      refine wpAny_allTrue_Or_nil ?_
      refine ite_neg (by simp) ?_
      refine wpAny_execs_nil ?_
      refine wpAny_execs_cons ?_
      refine wpAny_Assign_Name ?_
      refine slc_start ?_
      refine nm S6 hml2 ?_
      refine wpAny_pure ?_
      refine partSome ?_
      refine wpAny_BinOp ?_
      refine nm S6 hmd ?_
      refine cInt fun _ _ => ?_
      refine divI (by lia) (by lia) fun _ _ => ?_
      refine slcM (ys := refs na (σ.line.take p.1)) S6 S6.mu1.isList .none (.int _ _) (by simp [refs]; lia) (by rw [hdv, pickUp]; simp [refs, List.map_take]) fun la2 h10 S6 => stor S6 fun h11 tk11 S6 => ?_
      refine wpAny_execs_cons (wpAny_If ?_)
      refine wpAny_mono (Q := fun b s' => b = (!(refs na (σ.line.take p.1)).isEmpty) ∧ ∃ tk', s' = sh s₀ h11 tk') ?_ (fun b s' hb => ?_) fun _ _ e => e
      · refine PyProof.Rows.isTrue_plain ?_
        refine Mine.nm (by assumption) rfl ?_
        exact truthyL S6.mu0 (by simp [refs]; lia) fun tk' => ⟨rfl, tk', rfl⟩
      · obtain ⟨rfl, tk12, rfl⟩ := hb
        have hbound : σ.n ≤ 1000 := by rw [hn]; lia
        refine if_mid (Q' := fun f s' => f = .next ∧ ∃ h' tk' m', s' = sh s₀ h' tk' ∧ St (Og.at ⟨h₁, g, [L], L⟩ h3 g1 mu1) g3 m' ((la2, refs na (σ.line.take p.1)) :: (kN, []) :: (la, refs na σ.line) :: (ra, refs (up na σ.n aN) (σ.step p).roots) :: ((List.range σ.n).map fun j => (ka j, refs (up na σ.n aN) ((σ.step p).kd j)))) h' ∧
          m' (Str.ofString "line") = some (.ref la2) ∧ m' (Str.ofString "node") = some (.ref aN) ∧ m' (Str.ofString "roots") = some (.ref ra)) ?_ fun f s' hf => ?_
        · refine (opt_cases (σ.line.take p.1).getLast?).elim (fun hq => ?_) fun hq => ?_
          · have hne : σ.line.take p.1 = [] := List.getLast?_eq_none_iff.mp hq
            have hst := step_none hinv na ka aN hq
            refine ite_neg (by rw [hne]; simp [refs]) ?_
            refine wpAny_execs_cons (appendN S6 hmr2 (S6.mus (ra, refs na σ.roots) (by simp)).1 ?_)
            refine Mine.nm (by assumption) rfl ?_
            refine appOn (S6.mus (ra, refs na σ.roots) (by simp)).1 (by have := hlens.2.1; simp [refs]; lia) fun h12 hl12 hs12 => ?_
            have S7 := S6.upd (pre := [(la2, refs na (σ.line.take p.1)), (kN, []), (la, refs na σ.line)]) hl12 hs12
            refine wpAny_execs_nil ?_
            exact ⟨rfl, _, _, _, rfl, S7.mu_eq (by rw [hst.1, hst.2]; rfl), rfl, rfl, hmr2⟩
          · refine Exists.elim hq fun q hq => ?_
            have hst := step_some hinv na ka aN hq
            refine Exists.elim (List.getLast?_eq_some_iff.mp hq) fun l' hl' => ?_
            refine Exists.elim hst.2.2 fun pre e => Exists.elim e fun post hpp => ?_
            have hlen' : l'.length ≤ 1000 := by have := congrArg List.length hl'; rw [List.length_take, List.length_append] at this; simp at this; lia
            refine ite_pos (by rw [hl']; simp [refs]) ?_
            refine wpAny_execs_cons (appendX ?_)
            refine Subscript_ ?_
            refine Subscript_ ?_
            refine Mine.nm (by assumption) rfl ?_
            refine wpAny_UnaryOp ?_
            refine cInt fun _ _ => ?_
            refine negI fun _ _ => ?_
            refine lastL (vs := refs na l') (v := .ref (na q)) (by have := S6.mu0; rw [hl', refs_append] at this; exact this) (by simp [refs]; lia) ?_
            refine cInt fun _ _ => ?_
            refine Exists.elim (hnd q hst.1) fun tq hlq => ?_
            refine getsL (((hlq.mono hle5).mono hle8).plain S6.sub) (by decide) (by decide) rfl ?_
            have S6' := S6.mu_eq (mu2 := [(la2, refs na (σ.line.take p.1)), (kN, []), (la, refs na σ.line), (ra, refs na σ.roots)] ++ (pre ++ (ka q, refs na (σ.kd q)) :: post)) (by rw [← hpp.1]; rfl)
            have hml3 := (S6'.mus (ka q, refs na (σ.kd q)) (by simp)).1
            refine ⟨ka q, _, rfl, hml3, ?_⟩
            refine Mine.nm (by assumption) rfl ?_
            refine appOn hml3 (by have := hlens.2.2 q hst.1; simp [refs]; lia) fun h12 hl12 hs12 => ?_
            have S6'' := S6'.mu_eq (mu2 := ([(la2, refs na (σ.line.take p.1)), (kN, []), (la, refs na σ.line), (ra, refs na σ.roots)] ++ pre) ++ (ka q, refs na (σ.kd q)) :: post) (by simp)
            have S7 := S6''.upd hl12 hs12
            refine wpAny_execs_nil ?_
            exact ⟨rfl, _, _, _, rfl, S7.mu_eq (by rw [hst.2.1, hpp.2]; simp), rfl, rfl, hmr2⟩
        · obtain ⟨rfl, h12, tk12, m12, rfl, S7, e1, e2, e3⟩ := hf
          refine wpAny_execs_cons (appendN S7 e1 S7.mu0 ?_)
          refine nm S7 e2 ?_
          refine appOn S7.mu0 (by simp [refs]; lia) fun h13 hl13 hs13 => ?_
          have S8 := S7.upd0 hl13 hs13
          have S9 := (S8.drop (pre := [(la2, refs na (σ.line.take p.1) ++ [.ref aN]), (kN, [])])).perm end_perm
          refine wpAny_execs_nil ?_
          refine ⟨rfl, FAfter.of S9 ⟨σ.step p, la2, up na σ.n aN, up ka σ.n kN, e3, e1, ?_, ?_, Rd.step_inv hinv p, ?_, Rd.step_lens hinv hlens p, hruns2⟩⟩
          · rw [kmu_end hinv, step_line hinv]
          · intro j hj
            have hj' : j < σ.n + 1 := hj
            by_cases hjn : j = σ.n
            · subst hjn
              refine ⟨t6, ?_⟩
              rw [up_self, up_self]
              have : (σ.step p).hd σ.n = p.2 := up_self ..
              rw [this, ← hrest]
              exact hl8
            · refine Exists.elim (hnd j (by lia)) fun tq hlq => ⟨tq, ?_⟩
              rw [up_ne _ _ hjn, up_ne _ _ hjn]
              have : (σ.step p).hd j = σ.hd j := up_ne _ _ hjn
              rw [this]
              exact (hlq.mono hle5).mono hle8
          · show σ.n + 1 = i + 1
            rw [hn]
  · intro h3 tk3 g1 m1 mu1 hj hle S1
    refine Exists.elim hj fun σ e => Exists.elim e fun la e => Exists.elim e fun na e => Exists.elim e fun ka hj => ?_
    have S2 := S1.mu_eq hj.2.2.1
    have hnd := hj.2.2.2.1
    have hfin : RFin t σ := by
      have h := hj.2.2.2.2.2.2.2
      rw [List.drop_of_length_le (by rw [Tr.flat_len]; lia)] at h
      exact h
    refine wpAny_execs_cons ?_
    refine wpAny_Return_some ?_
    refine nm S2 hj.1 ?_
    refine ret ra (.ref (na 0)) _ _ _ (B S2) ?_ ?_
    · have := S2.mu1; rw [hfin.2.1] at this; exact this
    · exact Rep.neH (fun j hj => (hnd j hj).elim fun tok h => ⟨tok, h.plain S2.sub⟩) (fun j hj => (S2.mus (ka j, refs na (σ.kd j)) (List.mem_cons_of_mem _ (List.mem_cons_of_mem _ (List.mem_map.mpr ⟨j, List.mem_range.mpr hj, rfl⟩)))).1) t 0 (by rw [hfin.1]; lia) hfin.2.2
end

section
open PySem.SeqAt
theorem eqAt_lists {A : Around} {s : Shared} {a b : Addr} {vs ws : List Value} (ha : s.heap.IsList a vs.toArray) (hb : s.heap.IsList b ws.toArray) (hl : vs.length = ws.length) (hu : A.units < cLine)
    (h : ∀ (j : Nat) (v w : Value), vs[j]? = some v → ws[j]? = some w → EqAt A.in1 s v w true) : EqAt A s (.ref a) (.ref b) true := by
  by_cases hab : a = b
  · subst hab; exact EqAt.same _
  · have := RcAt.lists (e := fun _ => true) ha hb (by simpa using hl) hu (fun j h1 h2 => h j _ _ (by simp at h1 ⊢) (by simp at h2 ⊢))
    have e : (List.range vs.toArray.size).all (fun _ => true) = true := by simp
    rw [e] at this
    exact EqAt.of_refs hab this
mutual
theorem NeH.eq {s : Shared} : ∀ (t : Tr) {A : Around} {v w : Value}, A.units + 2 * (t.dep + 1) < cLine → NeH s.heap t v → NeH s.heap t w → EqAt A s v w true
  | .leaf k x, A, v, w, hu, h1, h2 => by
    simp only [NeH] at h1 h2
    simp only [Tr.dep] at hu
    obtain ⟨a, tk, l, rfl, ha, hl⟩ := h1
    obtain ⟨a', tk', l', rfl, ha', hl'⟩ := h2
    refine eqAt_lists ha.isList ha'.isList rfl (by lia) fun j v w e1 e2 => ?_
    match j, e1, e2 with
    | 0, e1, e2 =>
      simp at e1 e2; subst e1 e2
      have := EqAt.str_str (A := A.in1) (s := s) (Tr.leaf k x).head tk (Tr.leaf k x).head tk'
      rwa [beq_self_eq_true] at this
    | 1, e1, e2 =>
      simp at e1 e2; subst e1 e2
      exact eqAt_lists hl.isList hl'.isList rfl (by show A.units + 1 < _; lia) fun j v w e1 _ => by simp at e1
    | j + 2, e1, _ => simp at e1
  | .node n cs, A, v, w, hu, h1, h2 => by
    simp only [NeH] at h1 h2
    simp only [Tr.dep] at hu
    obtain ⟨a, tk, l, vs, rfl, ha, hl, hk⟩ := h1
    obtain ⟨a', tk', l', vs', rfl, ha', hl', hk'⟩ := h2
    refine eqAt_lists ha.isList ha'.isList rfl (by lia) fun j v w e1 e2 => ?_
    match j, e1, e2 with
    | 0, e1, e2 =>
      simp at e1 e2; subst e1 e2
      have := EqAt.str_str (A := A.in1) (s := s) n tk n tk'
      rwa [beq_self_eq_true] at this
    | 1, e1, e2 =>
      simp at e1 e2; subst e1 e2
      have := NeHs.eq cs (A := A.in1.in1) (by show A.units + 1 + 1 + 2 * cs.dep + 2 < _; lia) hk hk'
      exact eqAt_lists hl.isList hl'.isList this.1 (by show A.units + 1 < _; lia) this.2
    | j + 2, e1, _ => simp at e1
theorem NeHs.eq {s : Shared} : ∀ (f : Fo) {A : Around} {vs ws : List Value}, A.units + 2 * f.dep + 2 < cLine → NeHs s.heap f vs → NeHs s.heap f ws → vs.length = ws.length ∧ ∀ (j : Nat) (v w : Value), vs[j]? = some v → ws[j]? = some w → EqAt A s v w true
  | .nil, A, vs, ws, hu, h1, h2 => by
    simp only [NeHs] at h1 h2
    subst h1 h2
    exact ⟨rfl, fun j v w e => by simp at e⟩
  | .cons t r, A, vs, ws, hu, h1, h2 => by
    simp only [NeHs] at h1 h2
    simp only [Fo.dep] at hu
    obtain ⟨v, vs, rfl, a1, b1⟩ := h1
    obtain ⟨w, ws, rfl, a2, b2⟩ := h2
    have ih := NeHs.eq r (A := A) (by lia) b1 b2
    refine ⟨by simp [ih.1], fun j x y e1 e2 => ?_⟩
    match j, e1, e2 with
    | 0, e1, e2 => simp at e1 e2; subst e1 e2; exact NeH.eq t (by lia) a1 a2
    | j + 1, e1, e2 => exact ih.2 j x y (by simpa using e1) (by simpa using e2)
end
mutual
theorem IsNe.heap {g : View} {h : Heap} (s : Sub g h) : ∀ (t : Tr) {v : Value}, IsNe g t v → NeH h t v
  | .leaf k x, v, i => by
    simp only [IsNe] at i
    simp only [NeH]
    obtain ⟨a, tk, l, e, x, y⟩ := i
    exact ⟨a, tk, l, e, x.plain s, y.plain s⟩
  | .node n cs, v, i => by
    simp only [IsNe] at i
    simp only [NeH]
    obtain ⟨a, tk, l, vs, e, x, y, z⟩ := i
    exact ⟨a, tk, l, vs, e, x.plain s, y.plain s, IsNes.heap s cs z⟩
theorem IsNes.heap {g : View} {h : Heap} (s : Sub g h) : ∀ (f : Fo) {vs : List Value}, IsNes g f vs → NeHs h f vs
  | .nil, vs, i => by simp only [IsNes] at i; simp only [NeHs]; exact i
  | .cons t r, vs, i => by
    simp only [IsNes] at i
    simp only [NeHs]
    obtain ⟨v, ws, e, x, y⟩ := i
    exact ⟨v, ws, e, IsNe.heap s t x, IsNes.heap s r y⟩
end
mutual
theorem NeH.keeps {h h' : Heap} (k : ∀ b o, h.get? b = some o → h'.get? b = some o) : ∀ (t : Tr) {v : Value}, NeH h t v → NeH h' t v
  | .leaf _ x, v, i => by
    simp only [NeH] at i ⊢
    obtain ⟨a, tk, l, e, x, y⟩ := i
    exact ⟨a, tk, l, e, x.at (k _), y.at (k _)⟩
  | .node n cs, v, i => by
    simp only [NeH] at i ⊢
    obtain ⟨a, tk, l, vs, e, x, y, z⟩ := i
    exact ⟨a, tk, l, vs, e, x.at (k _), y.at (k _), NeHs.keeps k cs z⟩
theorem NeHs.keeps {h h' : Heap} (k : ∀ b o, h.get? b = some o → h'.get? b = some o) : ∀ (f : Fo) {vs : List Value}, NeHs h f vs → NeHs h' f vs
  | .nil, vs, i => by simp only [NeHs] at i ⊢; exact i
  | .cons t r, vs, i => by
    simp only [NeHs] at i ⊢
    obtain ⟨v, ws, e, x, y⟩ := i
    exact ⟨v, ws, e, NeH.keeps k t x, NeHs.keeps k r y⟩
end
/-- two lists of the same told pairs -/
theorem TupP.eq {A : Around} {s : Shared} {g : View} (S : Sub g s.heap) {p : Str × Str} {v w : Value} (hu : A.units < cLine) (h1 : TupP g p v) (h2 : TupP g p w) : EqAt A s v w true := by
  obtain ⟨a, t1, t2, rfl, ha⟩ := h1
  obtain ⟨b, t3, t4, rfl, hb⟩ := h2
  by_cases hab : a = b
  · subst hab; exact EqAt.same _
  · have := RcAt.tuples (s := s) (A := A) (e := fun _ => true) (ha.isTup S) (hb.isTup S) hu (fun j h1 h2 => by
      match j, h1, h2 with
      | 0, _, _ => have := EqAt.str_str (A := A.in1) (s := s) p.1 t1 p.1 t3; rwa [beq_self_eq_true] at this
      | 1, _, _ => have := EqAt.str_str (A := A.in1) (s := s) p.2 t2 p.2 t4; rwa [beq_self_eq_true] at this
      | j + 2, h1, _ => exact absurd (show j + 2 < 2 from h1) (by lia))
    refine EqAt.of_refs hab ?_
    have e : ((List.range (min [Value.str p.1 t1, .str p.2 t2].toArray.size [Value.str p.1 t3, .str p.2 t4].toArray.size)).all (fun _ => true) && [Value.str p.1 t1, .str p.2 t2].toArray.size == [Value.str p.1 t3, .str p.2 t4].toArray.size) = true := rfl
    rw [e] at this
    exact this
theorem All2.pair {α : Type} {R R' : α → Value → Prop} : ∀ {ts : List α} {vs ws : List Value}, All2 R ts vs → All2 R' ts ws → vs.length = ws.length ∧ ∀ (j : Nat) (v w : Value), vs[j]? = some v → ws[j]? = some w → ∃ t, R t v ∧ R' t w
  | _, _, _, .nil, .nil => ⟨rfl, fun j v w e => by simp at e⟩
  | _, _, _, .cons a b, .cons c d => by
    have ih := All2.pair b d
    refine ⟨by simp [ih.1], fun j v w e1 e2 => ?_⟩
    match j, e1, e2 with
    | 0, e1, e2 => simp at e1 e2; subst e1 e2; exact ⟨_, a, c⟩
    | j + 1, e1, e2 => exact ih.2 j v w (by simpa using e1) (by simpa using e2)
section
variable {Γ : Wd} {A : Around} {E : Value → Shared → Prop} {s : Shared} {a b : Addr} {vs ws : List Value} {Q : Value → Shared → Prop}
theorem neLists (ha : s.heap.IsList a vs.toArray) (hb : s.heap.IsList b ws.toArray) (hl : vs.length = ws.length) (hu : A.units < cLine)
    (h : ∀ (j : Nat) (v w : Value), vs[j]? = some v → ws[j]? = some w → EqAt A.in1 s v w true) (q : Q (.bool false) s) : wpAny Γ.M A (compareOp .NotEq (.ref a) (.ref b)) Q E s := by
  have := RcNeAt.lists (A := A) (s := s) (e := fun _ => true) ha hb (by simpa using hl) hu (fun j h1 h2 => h j _ _ (by simp at h1 ⊢) (by simp at h2 ⊢))
  have e : (!(List.range vs.toArray.size).all (fun _ => true)) = false := by simp
  rw [e] at this
  exact this _ _ _ _ q
theorem eqLists (ha : s.heap.IsList a vs.toArray) (hb : s.heap.IsList b ws.toArray) (hl : vs.length = ws.length) (hu : A.units < cLine)
    (h : ∀ (j : Nat) (v w : Value), vs[j]? = some v → ws[j]? = some w → EqAt A.in1 s v w true) (q : Q (.bool true) s) : wpAny Γ.M A (compareOp .Eq (.ref a) (.ref b)) Q E s := by
  have := RcAt.lists (A := A) (s := s) (e := fun _ => true) ha hb (by simpa using hl) hu (fun j h1 h2 => h j _ _ (by simp at h1 ⊢) (by simp at h2 ⊢))
  have e : (List.range vs.toArray.size).all (fun _ => true) = true := by simp
  rw [e] at this
  exact this _ _ _ _ q
end
theorem strsEq {A : Around} {s : Shared} : ∀ {vs ws : List Value} {ys : List Str}, StrsAre vs ys → StrsAre ws ys → vs.length = ws.length ∧ ∀ (j : Nat) (v w : Value), vs[j]? = some v → ws[j]? = some w → EqAt A s v w true
  | _, _, _, .nil, .nil => ⟨rfl, fun j v w e => by simp at e⟩
  | _, _, _, .cons y t a, .cons _ t' b => by
    have ih := strsEq (A := A) (s := s) a b
    refine ⟨by simp [ih.1], fun j v w e1 e2 => ?_⟩
    match j, e1, e2 with
    | 0, e1, e2 =>
      simp at e1 e2; subst e1 e2
      have := EqAt.str_str (A := A) (s := s) y t y t'
      rwa [beq_self_eq_true] at this
    | j + 1, e1, e2 => exact ih.2 j v w (by simpa using e1) (by simpa using e2)
end

def bodyOf : Option Obj → List Stmt
  | some ⟨_, _, .func fd, _⟩ => match fd.body with | .stmts b => b | _ => []
  | _ => []
def scopeOf : Option Obj → PySem.Scope
  | some ⟨_, _, .func fd, _⟩ => fd.scope
  | _ => { kind := .function, names := [], isGenerator := false, isCoroutine := false }
theorem open_body {Γ : Wd} {f : Addr} {fname qual nm : Str} {params : Arguments} {body : List Stmt} {scope : PySem.Scope} {dV kV doc pm cdv cdv' ct oc : Value} {an od : Option Addr} {osl : Array (Option Value)} {fa L : Addr} {A : Env → Around} {Q : Flow → Shared → Prop} {E : Env → Value → Shared → Prop} {s : Shared}
    (ho : (KF Γ).lookup f = some ⟨oc, od, .func (fnOf fname qual params body scope dV kV doc pm an cdv ct), osl⟩) (h : wpAny Γ.M (A (envOf nm scope L fa cdv')) (execs body (envOf nm scope L fa cdv')) Q (E (envOf nm scope L fa cdv')) s) :
    wpAny Γ.M (A (envOf nm (scopeOf ((KF Γ).lookup f)) L fa cdv')) (execs (bodyOf ((KF Γ).lookup f)) (envOf nm (scopeOf ((KF Γ).lookup f)) L fa cdv')) Q (E (envOf nm (scopeOf ((KF Γ).lookup f)) L fa cdv')) s := by
  rw [ho]; exact h
theorem NB_le {d : Nat} (h : d ≤ 4) : NB d ≤ 1000 := by
  match d, h with
  | 0, _ => decide
  | 1, _ => decide
  | 2, _ => decide
  | 3, _ => decide
  | 4, _ => decide
  | d + 5, h => lia
theorem joinL_len : ∀ l : List (List Nat), (joinL l).length ≤ (l.map List.length).sum + l.length
  | [] => Nat.zero_le _
  | [x] => by simp [joinL]
  | x :: y :: r => by have := joinL_len (y :: r); simp [joinL] at this ⊢; lia
theorem text_len {t : Tr} (hw : t.wide) (hz : t.size ≤ 1000) (hd : t.dep ≤ 100) : (Str.join lineFeed ((t.flat 0).map rowOf)).length ≤ 301000 := by
  rw [len_cps, join_cps]
  have h1 := joinL_len (((t.flat 0).map rowOf).map fun s => s.cps.toList)
  have h2 : ((((t.flat 0).map rowOf).map fun s => s.cps.toList).map List.length).sum ≤ ((((t.flat 0).map rowOf).map fun s => s.cps.toList).map List.length).length * 300 := sum_le_of fun x hx => by
    simp only [List.mem_map] at hx
    obtain ⟨l, ⟨s, ⟨p, hp, rfl⟩, rfl⟩, rfl⟩ := hx
    rw [← len_cps, rowOf_len]
    have := Tr.flat_mem 0 t hw p hp
    have := this.2.2.1
    lia
  simp only [List.length_map, Tr.flat_len] at h1 h2 ⊢
  lia
theorem text_rows {t : Tr} (hw : t.wide) : Txt.split (Str.join lineFeed ((t.flat 0).map rowOf)) lineFeed = (t.flat 0).map rowOf := by
  refine split_join ?_ fun s hs => ?_
  · rw [Tr.flat_eq]; simp
  · obtain ⟨p, hp, rfl⟩ := List.mem_map.mp hs
    have := (Tr.flat_mem 0 t hw p hp).2.2.2.1
    rw [rowOf_cps]
    intro h
    rcases List.mem_append.mp h with h | h
    · have := List.eq_of_mem_replicate h; lia
    · exact this 10 h rfl
mutual
theorem Tr.flat_up : ∀ (d : Nat) (t : Tr), t.flat (d + 1) = (t.flat d).map fun p => (p.1 + 1, p.2)
  | d, .leaf k x => rfl
  | d, .node n cs => by simp [Tr.flat, Fo.flat_up (d + 1) cs]
theorem Fo.flat_up : ∀ (d : Nat) (f : Fo), f.flat (d + 1) = (f.flat d).map fun p => (p.1 + 1, p.2)
  | d, .nil => rfl
  | d, .cons t r => by simp [Fo.flat, Tr.flat_up d t, Fo.flat_up d r]
end
theorem rowOf_up (p : Nat × Str) : rowOf (p.1 + 1, p.2) = Str.ofString "  " ++ rowOf p := by
  refine str_ext ?_
  rw [cps_app, rowOf_cps, rowOf_cps, cps_two]
  show List.replicate (2 * (p.1 + 1)) 32 ++ _ = _
  rw [show 2 * (p.1 + 1) = 2 * p.1 + 1 + 1 by lia]
  rfl
theorem rowOf_zero (h : Str) : rowOf (0, h) = h := str_ext (by rw [rowOf_cps]; simp)
/-- the rows under a root, kid by kid -/
def under (f : List Tr) : List Str := (f.flatMap (Tr.flat 1)).map rowOf
theorem rows_eq (t : Tr) : (t.flat 0).map rowOf = t.head :: under t.kids.list := by
  rw [Tr.flat_eq, List.map_cons, rowOf_zero, Fo.flat_list]; rfl
theorem under_snoc (l : List Tr) (t : Tr) : under (l ++ [t]) = under l ++ ((t.flat 0).map rowOf).map fun s => Str.ofString "  " ++ s := by
  unfold under
  rw [List.flatMap_append, List.map_append]
  congr 1
  simp only [List.flatMap_cons, List.flatMap_nil, List.append_nil]
  rw [Tr.flat_up, List.map_map, List.map_map]
  exact List.map_congr_left fun p _ => rowOf_up p
theorem under_len (l : List Tr) : (under l).length = lsize l := by
  unfold under lsize
  rw [List.length_map, List.length_flatMap]
  congr 1
  exact List.map_congr_left fun t _ => Tr.flat_len _ _
theorem StrsAre.append {vs ws : List Value} {ys zs : List Str} (h : StrsAre vs ys) (h2 : StrsAre ws zs) : StrsAre (vs ++ ws) (ys ++ zs) := by
  induction h with
  | nil => exact h2
  | cons y t _ ih => exact .cons y t ih
theorem take_lsize (l : List Tr) (i : Nat) : lsize (l.take i) ≤ lsize l := by
  have := lsize_append (l.take i) (l.drop i)
  rw [List.take_append_drop] at this
  lia
section
variable {Γ : Wd} {A : Around} {E : Value → Shared → Prop} {s₀ : Shared} {hh : Heap} {tk : Nat} {env : Env} {o : Og} {g g' : View} {m : Nm} {mu mu2 : Mus} {t : Tr} {v : Value}
theorem newListK {vs : List Value} {Q : Value → Shared → Prop} (S : St o g m mu hh) (hz : vs.length ≤ 1000) (h : ∀ l h' g', (∀ b ob, hh.get? b = some ob → h'.get? b = some ob) → Le g g' → LV g' l vs → St o g' m mu h' → Q (.ref l) (sh s₀ h' tk)) : wpAny Γ.M A (newList vs) Q E (sh s₀ hh tk) :=
  wpAny_newObj_type (h _ _ _ (fun b ob e => Heap.get?_push_of_some _ e) S.le_push ⟨0, View.set_self ..⟩ (S.allocImm rfl)) (by show vs.toArray.size ≤ sizeLine; rw [sizeLine_eq]; simp; lia)
/-- «plain[2] is None» -/
theorem noKids {p1 p2 p3 p4 p5 : Pos} {k k2 : Nat} {Q : Value → Shared → Prop} (S : St o g m mu hh) (hv : m (Str.ofString "plain") = some v) (hp : IsPl g t v) (h : ∀ tk', Q (.bool t.isLeaf) (sh s₀ hh tk'))
    (hL : env.locals = o.L := by rfl) (hk : env.scope.kind = .function := by rfl) (hl : env.kindOf (Str.ofString "plain") = some .local := by rfl) :
    wpAny Γ.M A (eval (.Compare (.Subscript (.Name (Str.ofString "plain") p1) (.Constant (.int 2) k p2) p3) [.Is] [.Constant .none k2 p4] p5) env) Q E (sh s₀ hh tk) := by
  refine wpAny_Compare1 (Subscript_ (nm S hv (cInt fun _ _ => ?_) hL hk hl))
  cases t with
  | leaf k x =>
    simp only [IsPl] at hp
    obtain ⟨a, tk, tt, rfl, ht⟩ := hp
    exact getsT (ht.isTup S.sub) (by decide) (by decide) rfl (wpAny_Constant_none (is_none (h _)))
  | node n cs =>
    simp only [IsPl] at hp
    obtain ⟨a, tk, l, vs, rfl, ht, _⟩ := hp
    exact getsT (ht.isTup S.sub) (by decide) (by decide) rfl (wpAny_Constant_none (is_none (h _)))
theorem neBool {b : Bool} {Q : Value → Shared → Prop} {s : Shared} (h : Q (.bool false) s) : wpAny Γ.M A (compareOp .NotEq (.bool b) (.bool b)) Q E s := by
  have := SeqAt.RcNeAt.bool_bool (A := A) (s := s) b b
  rw [beq_self_eq_true] at this
  exact this _ _ _ _ h
/-- the rows of an object -/
theorem rows_of {Q : Value → Shared → Prop} {tok : Tok} {u : Tok} (S : St o g m mu hh) (hw : t.wide) (hz : t.size ≤ 1000) (hd : t.dep ≤ 100)
    (h : ∀ l vs h' tk' g', Le g g' → LV g' l vs → StrsAre vs ((t.flat 0).map rowOf) → St o g' m mu h' → Q (.ref l) (sh s₀ h' tk')) :
    wpAny Γ.M A (call (.builtin "str.split") [.str (Str.join lineFeed ((t.flat 0).map rowOf)) tok, .str lineFeed u]) Q E (sh s₀ hh tk) := by
  refine splitS S (by decide +kernel) (by rw [sizeLine_eq]; have := text_len hw hz hd; lia) fun l' lx h' tk' g' e hle hl S => ?_
  rw [text_rows hw] at e
  exact h _ _ _ _ _ hle hl (e ▸ strsAre_of_values lx) S
end

theorem Fo.size_mem : ∀ (f : Fo) {u : Tr}, u ∈ f.list → u.size ≤ f.size
  | .nil, u, h => by simp [Fo.list] at h
  | .cons t r, u, h => by
    simp only [Fo.list, List.mem_cons] at h
    simp only [Fo.size]
    rcases h with rfl | h
    · lia
    · have := Fo.size_mem r h; lia
theorem addSV {Γ : Wd} {A : Around} {E : Value → Shared → Prop} {s₀ : Shared} {hh : Heap} {tk : Nat} {a b : Str} {v : Value} {t u : Tok} {Q : Value → Shared → Prop} (e : v = .str b u) (hz : a.length + b.length ≤ sizeLine) (h : ∀ t tk', Q (.str (a ++ b) t) (sh s₀ hh tk')) : wpAny Γ.M A (binaryOp .Add (.str a t) v) Q E (sh s₀ hh tk) := by subst e; exact addS hz h
section
variable {Γ : Wd} {g : View}
theorem law_core (O : Γ.On g) {A : Around} {nme : Str} {fa L : Addr} {cdv : Value} {s₀ : Shared} {h₁ : Heap} {tk : Nat} {Q : Flow → Shared → Prop} {E : Env → Value → Shared → Prop} {l : Addr} {vs : List Value} {ns : List Int}
    (r : ∀ env, Rm (A.deeper env) 10) (hl : LI g l vs) (hi : IntsAre vs ns) (hz : vs.length ≤ 1000)
    (S : St ⟨h₁, g, [L], L⟩ g (fun x => [(Str.ofString "script", Value.ref l)].reverse.lookup x) [] h₁)
    (ret : ∀ h' tk', Sub g h' → Q (.ret (.bool true)) (sh s₀ h' tk')) :
    wpAny Γ.M (A.deeper (envOf nme (scopeOf ((KF Γ).lookup 228)) L fa cdv)) (execs (bodyOf ((KF Γ).lookup 228)) (envOf nme (scopeOf ((KF Γ).lookup 228)) L fa cdv)) Q (E (envOf nme (scopeOf ((KF Γ).lookup 228)) L fa cdv)) (sh s₀ h₁ tk) := by
  refine open_body (A := A.deeper) (by rfl) ?_
  refine wpAny_execs_cons ?_
  refine wpAny_Assign_Name ?_
  refine callG O S.sub n_pen (by kernel_rfl) ?_
  refine wpAny_items_cons ?_
  refine Mine.nm (by assumption) rfl ?_
  refine wpAny_items_nil ?_
  refine ⟨_, O, S.sub, pen_ok O ((r _).le) S.sub hl hi hz fun pa pv h2 tk2 g2 G2 hpl2 hg2 hn2 hpv2 => ?_⟩
  replace S := S.afterNew G2 hpl2 hg2 hn2
  have hle2 := G2.le
  have O2 := O.mono hle2
  refine stor S fun h3 tk3 S => ?_
  refine wpAny_execs_cons ?_
  refine wpAny_Assign_Name ?_
  refine callG O2 S.sub n_plain (by kernel_rfl) ?_
  refine wpAny_items_cons ?_
  refine Mine.nm (by assumption) rfl ?_
  refine wpAny_items_cons ?_
  refine wpAny_BinOp ?_
  refine cInt fun _ _ => ?_
  refine callG O2 S.sub n_draw (by kernel_rfl) ?_
  refine wpAny_items_cons ?_
  refine Mine.nm (by assumption) rfl ?_
  refine wpAny_items_cons ?_
  refine cInt fun _ _ => ?_
  refine wpAny_items_nil ?_
  refine ⟨_, O2, S.sub, draw_ok ((r _).le) O2 S.sub S.mu0 (S.mus (pa, _) (List.mem_singleton.mpr rfl)).2.1 hpv2 (by lia) (by lia) (by lia) fun k t4 pv4 h4 tk4 hk0 hk1 G4 hpl4 hpv4 => ?_⟩
  replace S := S.after1 (pre := []) G4 hpl4
  have hd0 : (1 + k : Int) = (((1 + k).toNat : Nat) : Int) := by lia
  have hd4 : (1 + k).toNat ≤ 4 := by lia
  have hNB := NB_le hd4
  refine addI fun _ _ => ?_
  refine wpAny_items_nil ?_
  refine ⟨_, O2, S.sub, plain_ok O (1 + k).toNat (P := 1) hd0 hle2 ((r _).le (by lia)) S.sub S.mu0 (S.mus (pa, _) (List.mem_singleton.mpr rfl)).2.1 hpv4 (by omega) fun t v pv5 h5 tk5 g5 hw hdt G5 hpl5 _ hpl => ?_⟩
  replace S := (S.after1 (pre := []) G5 hpl5).drop (pre := [])
  have hle5 := hle2.trans G5.le
  have O5 := O.mono hle5
  have hdep : t.dep ≤ 4 := by lia
  have hsize : t.size ≤ 1000 := by
    have h1 := Tr.size_le t hw
    have h2 : 4 ^ t.dep ≤ 4 ^ 4 := Nat.pow_le_pow_right (by decide) hdep
    lia
  clear hpv4 hpl4 hpl5 hpl2 hg2 hn2 hpv2
  refine stor S fun h6 tk6 S => ?_
  refine wpAny_execs_cons ?_
  refine wpAny_Assign_Name ?_
  refine callG O5 S.sub n_made (by kernel_rfl) ?_
  refine wpAny_items_cons ?_
  refine Mine.nm (by assumption) rfl ?_
  refine wpAny_items_nil ?_
  refine ⟨_, O5, S.sub, made_ok O5 5 t v g5 (Le.refl _) (by omega) hw hpl ((r _).le) S.sub fun ob h7 tk7 g7 G7 hob => ?_⟩
  replace S := S.after G7
  have O7 := O5.mono G7.le
  have hpl7 := IsPl.mono G7.le _ hpl
  refine stor S fun h8 tk8 S => ?_
  refine wpAny_execs_cons ?_
  refine wpAny_Assign_Name ?_
  refine strM1 F.slot_str_split F.type_str_split ?_
  refine callM ?_
  refine Mine.nm (by assumption) rfl ?_
  refine show_ok O7 ((r _).le) S.sub hob hw hsize (by omega) fun tok9 h9 tk9 g9 G9 => ?_
  replace S := S.after G9
  have O9 := O7.mono G9.le
  have hob9 := IsOb.mono G9.le _ hob
  have hpl9 := IsPl.mono G9.le _ hpl7
  refine ⟨_, _, rfl, ?_⟩
  refine cStr fun _ _ => ?_
  refine rows_of S hw hsize (by omega) fun rl rv h10 tk10 g10 hle10 hrl hrv S => ?_
  have O10 := O9.mono hle10
  have hob10 := IsOb.mono hle10 _ hob9
  have hpl10 := IsPl.mono hle10 _ hpl9
  have hrlen := hrv.len_eq
  rw [List.length_map, Tr.flat_len] at hrlen
  clear hob hob9 hpl hpl7 hpl9
  refine stor S fun h11 tk11 S => ?_
  refine wpAny_execs_cons ?_
  refine wpAny_If ?_
  refine wpAny_isTrue_BoolOp ?_
  refine wpAny_allTrue_Or_cons ?_
  refine wpAny_isTrue_Compare1 ?_
  refine callG O10 S.sub n_read (by kernel_rfl) ?_
  refine wpAny_items_cons ?_
  refine Mine.nm (by assumption) rfl ?_
  refine wpAny_items_nil ?_
  refine ⟨_, O10, S.sub, read_ok O10 ((r _).le) S.sub hrl hrv hw hsize (by omega) fun ra x h12 tk12 g12 G12 hra hnx => ?_⟩
  replace S := S.after G12
  have O12 := O10.mono G12.le
  refine PyProof.Rows.List_ ?_
  refine wpAny_items_cons ?_
  refine callG O12 S.sub n_nest (by kernel_rfl) ?_
  refine wpAny_items_cons ?_
  refine Mine.nm (by assumption) rfl ?_
  refine wpAny_items_nil ?_
  refine ⟨_, O12, S.sub, nest_ok O12 5 t v g12 (Le.refl _) (by omega) hw (IsPl.mono G12.le _ hpl10) ((r _).le) S.sub fun y h13 tk13 g13 G13 hny => ?_⟩
  replace S := S.after G13
  have hra := hra.at (G13.old _ · · (by simp))
  have hnx := NeH.keeps (fun b ob e => G13.old b ob e (by simp)) t hnx
  refine wpAny_items_nil ?_
  refine newListK S (by simp) fun l14 h14 g14 hk14 hle14 hl14 S => ?_
  have hra := hra.at (hk14 _)
  have hnx := NeH.keeps hk14 t hnx
  refine neLists hra.isList (hl14.isList S.sub) rfl (r _).units (fun j v w e1 e2 => ?_) ?_
  · match j, e1, e2 with
    | 0, e1, e2 =>
      simp at e1 e2; subst e1 e2
      exact NeH.eq t (by have := (r (envOf nme (scopeOf ((KF Γ).lookup 228)) L fa cdv)).2.2; show A.units + 3 + 1 + 2 * (t.dep + 1) < cLine; have h9 : A.units + 3 + 40 * 10 < cLine := this; lia) hnx (IsNe.heap S.sub t (IsNe.mono hle14 t hny))
    | j + 1, e1, _ => simp at e1
  refine wpAny_truthy_bool ?_
  refine ite_neg (by simp) ?_
  have O14 := O12.mono (G13.le.trans hle14)
  have hle1014 := G12.le.trans (G13.le.trans hle14)
  have hrl14 := hrl.mono hle1014
  have hob14 := IsOb.mono hle1014 _ hob10
  have hpl14 := IsPl.mono hle1014 _ hpl10
  clear hra hnx hny hl14 hk14 hrl hob10 hpl10
  refine wpAny_allTrue_Or_cons ?_
  refine wpAny_isTrue_Compare1 ?_
  refine callB O14 S.sub b_len bb_len (by decide) ?_
  refine wpAny_items_cons ?_
  refine Mine.nm (by assumption) rfl ?_
  refine wpAny_items_nil ?_
  refine lenL (hrl14.plain S.sub) (by lia) fun _ _ => ?_
  skip
  refine callG O14 S.sub n_count (by kernel_rfl) ?_
  refine wpAny_items_cons ?_
  refine Mine.nm (by assumption) rfl ?_
  refine wpAny_items_nil ?_
  refine ⟨_, O14, S.sub, count_ok O14 5 t v g14 (Le.refl _) (by omega) hw hpl14 ((r _).le) S.sub fun tok15 h15 tk15 g15 G15 => ?_⟩
  replace S := S.after G15
  refine PyProof.Rows.ne_int ?_
  refine wpAny_truthy_bool ?_
  refine ite_neg (by simp [hrlen]) ?_
  have O15 := O14.mono G15.le
  have hrl15 := hrl14.mono G15.le
  have hob15 := IsOb.mono G15.le _ hob14
  have hpl15 := IsPl.mono G15.le _ hpl14
  refine wpAny_allTrue_Or_cons ?_
  refine wpAny_isTrue_Compare1 ?_
  refine callB O15 S.sub b_len bb_len (by decide) ?_
  refine wpAny_items_cons ?_
  refine callG O15 S.sub n_post (by kernel_rfl) ?_
  refine wpAny_items_cons ?_
  refine Mine.nm (by assumption) rfl ?_
  refine wpAny_items_nil ?_
  refine ⟨_, O15, S.sub, postorder_ok O15 ((r _).le) S.sub hob15 hsize fun lp vp h16 tk16 g16 G16 hlp hvp => ?_⟩
  replace S := S.after G16
  have hpl0 : t.post.length = t.size := by unfold Tr.post; rw [List.length_reverse, Tr.rpre_len]
  have hvl := hvp.length
  refine wpAny_items_nil ?_
  refine lenL (hlp.plain S.sub) (by lia) fun _ _ => ?_
  skip
  refine callB (O15.mono G16.le) S.sub b_len bb_len (by decide) ?_
  refine wpAny_items_cons ?_
  refine Mine.nm (by assumption) rfl ?_
  refine wpAny_items_nil ?_
  refine lenL ((hrl15.mono G16.le).plain S.sub) (by lia) fun _ _ => ?_
  refine PyProof.Rows.ne_int ?_
  refine wpAny_truthy_bool ?_
  refine ite_neg (by simp [hrlen, hvl, hpl0]) ?_
  refine wpAny_allTrue_Or_nil ?_
  refine ite_neg (by simp) ?_
  have O16 := O15.mono G16.le
  have hrl16 := hrl15.mono G16.le
  have hob16 := IsOb.mono G16.le _ hob15
  have hpl16 := IsPl.mono G16.le _ hpl15
  clear hlp hvp hrl14 hob14 hpl14 hrl15 hob15 hpl15
  refine wpAny_execs_nil ?_
  refine wpAny_execs_cons ?_
  refine wpAny_If ?_
  refine wpAny_isTrue_BoolOp ?_
  refine wpAny_allTrue_Or_cons ?_
  refine wpAny_isTrue_Compare1 ?_
  refine callM ?_
  refine Mine.nm (by assumption) rfl ?_
  refine height_ob O16 S.sub ((r _).le) hob16 hsize fun tok17 h17 tk17 g17 G17 => ?_
  replace S := S.after G17
  have O17 := O16.mono G17.le
  have hpl17 := IsPl.mono G17.le _ hpl16
  have hob17 := IsOb.mono G17.le _ hob16
  skip
  refine callG O17 S.sub n_height (by kernel_rfl) ?_
  refine wpAny_items_cons ?_
  refine Mine.nm (by assumption) rfl ?_
  refine wpAny_items_nil ?_
  refine ⟨_, O17, S.sub, height_ok O17 5 t v g17 (Le.refl _) (by omega) hw hpl17 ((r _).le) S.sub fun tok18 h18 tk18 g18 G18 => ?_⟩
  replace S := S.after G18
  refine PyProof.Rows.ne_int ?_
  refine wpAny_truthy_bool ?_
  refine ite_neg (by simp) ?_
  have O18 := O17.mono G18.le
  have hpl18 := IsPl.mono G18.le _ hpl17
  have hob18 := IsOb.mono G18.le _ hob17
  refine wpAny_allTrue_Or_cons ?_
  refine wpAny_isTrue_Compare1 ?_
  refine callM ?_
  refine Mine.nm (by assumption) rfl ?_
  refine isleaf_ok O18 S.sub ((r _).le) hob18 fun h19 tk19 G19 => ?_
  replace S := S.after G19
  refine noKids S rfl hpl18 fun tk20 => ?_
  refine neBool ?_
  refine wpAny_truthy_bool ?_
  refine ite_neg (by simp) ?_
  refine wpAny_allTrue_Or_nil ?_
  refine ite_neg (by simp) ?_
  refine wpAny_execs_nil ?_
  refine wpAny_execs_cons ?_
  refine wpAny_If ?_
  refine wpAny_isTrue_Compare1 ?_
  have hrl18 := hrl16.mono (G17.le.trans G18.le)
  clear hpl16 hob16 hpl17 hob17 hpl18 hrl16
  refine comp_start (cl := []) (by rfl) (by rfl) (by decide) ?_
  refine callM ?_
  refine Mine.nm (by assumption) rfl ?_
  refine leaves_ob O18 S.sub ((r _).le) hob18 hsize fun lt tv h21 tk21 g21 G21 hlt htv => ?_
  replace S := S.after G21
  have O21 := O18.mono G21.le
  have htl := htv.length
  have hlfl : (leafs t.post).length ≤ 1000 := by
    have h1 : (leafs t.post).length ≤ t.post.length := List.length_filterMap_le _ _
    lia
  refine comp_list S (r _).1 (hlt.plain S.sub) (by lia) (fun i ys g' => All2 (TupP g') ((leafs t.post).take i) ys) .nil (fun i ys g' h => by have := h.length; simp at this; lia) (by decide) (by rfl) (by rfl) ?_ ?_
  · intro i w ys g22 h22 tk22 C' m' E' hiw hj hle22 S'
    refine tests_nil (ite_pos rfl ?_)
    refine Exists.elim (All2.get htv hiw) fun p hp => ?_
    refine callM ?_
    refine Mine.nm (by assumption) rfl ?_
    refine told_tok (O21.mono hle22) S'.sub ((r _).le) (TokP.mono hle22 _ _ hp.2) fun w2 h23 tk23 g23 G23 hw2 => ?_
    refine CAfter.of (S'.after G23) ?_
    rw [List.take_add_one, hp.1]
    exact (hj.mono fun t v h => TupP.mono G23.le t v h).snoc hw2
  · intro D h22 tk22 g22 g23 ys hj hle22 hle23 hD S
    rw [List.take_of_length_le (by lia)] at hj
    have hle23' := hle22.trans hle23
    have O23 := O21.mono hle23'
    have hob23 := IsOb.mono (G21.le.trans hle23') _ hob18
    have hj1 : All2 (TupP g23) (leafs t.post) ys := hj.mono fun t v h => TupP.mono hle23 t v h
    clear hj
    skip
    refine comp_start (cl := []) (by rfl) (by rfl) (by decide) ?_
    refine callG O23 S.sub n_post (by kernel_rfl) ?_
    refine wpAny_items_cons ?_
    refine Mine.nm (by assumption) rfl ?_
    refine wpAny_items_nil ?_
    refine ⟨_, O23, S.sub, postorder_ok O23 ((r _).le) S.sub hob23 hsize fun lp vp h24 tk24 g24 G24 hlp hvp => ?_⟩
    replace S := S.after G24
    have O24 := O23.mono G24.le
    have hvl2 := hvp.length
    refine comp_list S (r _).1 (hlp.plain S.sub) (by lia) (fun i ys g' => All2 (TupP g') (leafs (t.post.take i)) ys ∧ ys.length ≤ i) ⟨.nil, Nat.le_refl _⟩ (fun i ys g' h => h.2) (by decide) (by rfl) (by rfl) ?_ ?_
    · intro i w ys2 g25 h25 tk25 C' m' E' hiw hj hle25 S4
      have O25 := O24.mono hle25
      refine Exists.elim (All2.get hvp hiw) fun u hu => ?_
      have hub := IsOb.mono hle25 _ hu.2
      refine tests_one ?_
      refine PyProof.Rows.isTrue_plain ?_
      refine callM ?_
      refine Mine.nm (by assumption) rfl ?_
      refine isleaf_ok O25 S4.sub ((r _).le) hub fun h5 tk5 G5 => ?_
      replace S4 := S4.after G5
      refine wpAny_truthy_bool ?_
      cases hlf : u.isLeaf with
      | true =>
        refine ite_pos rfl ?_
        refine callM ?_
        refine PyProof.Rows.Attribute_any_ ?_
        refine Mine.nm (by assumption) rfl ?_
        refine leaftok O25 S4.sub hub hlf fun ta kk xx tk6 hu2 T => ?_
        refine told_tok (p := (kk, xx)) O25 S4.sub ((r _).le) ⟨ta, rfl, T⟩ fun w2 h26 tk26 g26 G26 hw2 => ?_
        refine CAfter.of (S4.after G26) ⟨?_, by rw [List.length_append]; simp; exact hj.2⟩
        rw [List.take_add_one, hu.1, leafs_append, hu2]
        exact (hj.1.mono fun t v h => TupP.mono G26.le t v h).snoc (t := (kk, xx)) hw2
      | false =>
        refine ite_neg (by simp) ?_
        refine CAfter.of S4 ⟨?_, by lia⟩
        rw [List.take_add_one, hu.1, leafs_append]
        cases u with
        | leaf k x => cases hlf
        | node n cs => simpa [leafs] using hj.1
    · intro D2 h25 tk25 g25 g26 ys2 hj hle25 hle26 hD2 S
      have hj2 := hj.1
      rw [List.take_of_length_le (by lia)] at hj2
      have hj2' : All2 (TupP g26) (leafs t.post) ys2 := hj2.mono fun t v h => TupP.mono hle26 t v h
      have hle2326 := G24.le.trans (hle25.trans hle26)
      have hj1' : All2 (TupP g26) (leafs t.post) ys := hj1.mono fun t v h => TupP.mono hle2326 t v h
      have hpair := hj1'.pair hj2'
      refine neLists ((hD.mono hle2326).isList S.sub) (hD2.isList S.sub) hpair.1 (r _).units (fun j v w e1 e2 => (hpair.2 j v w e1 e2).elim fun p hp => TupP.eq S.sub ((r (envOf nme (scopeOf ((KF Γ).lookup 228)) L fa cdv)).in1 (n := 9)).units hp.1 hp.2) ?_
      have O26 := O23.mono hle2326
      have hob26 := IsOb.mono hle2326 _ hob23
      have hrl26 := hrl18.mono (G21.le.trans (hle23'.trans hle2326))
      clear hj hj2 hj2' hj1 hj1' hpair hvp htv hlt hob23 hob18 hrl18 hD hD2
      refine wpAny_truthy_bool ?_
      refine ite_neg (by simp) ?_
      refine wpAny_execs_nil ?_
      refine wpAny_execs_cons ?_
      refine wpAny_Assign_Name ?_
      refine PyProof.Rows.List_ ?_
      refine wpAny_items_cons ?_
      refine callM ?_
      refine Mine.nm (by assumption) rfl ?_
      refine head_ob O26 S.sub ((r _).le) hw hob26 fun tok27 h27 tk27 G27 => ?_
      replace S := S.after G27
      refine wpAny_items_nil ?_
      refine newListI S (by simp) fun l28 h28 g28 hle28 hl28 S => stor S fun h29 tk29 S => ?_
      have O28 := O26.mono hle28
      have hob28 := IsOb.mono hle28 _ hob26
      have hrl28 := hrl26.mono hle28
      refine wpAny_execs_cons (for_start ?_)
      refine PyProof.Rows.Attribute_any_ ?_
      refine Mine.nm (by assumption) rfl ?_
      refine kidsV O28 S.sub hob28 fun lk vk tk30 hlk hak => ?_
      have hvk := hak.length
      have hwk := Tr.wide_kids hw
      have htz := Tr.size_eq t
      have hks := Fo.lsize t.kids
      refine for_list S (r _).1 hlk (fun i g' m' mu' => mu' = [] ∧ m' (Str.ofString "rows") = some (.ref rl) ∧ ∃ oa ov, m' (Str.ofString "own") = some (.ref oa) ∧ LV g' oa ov ∧ StrsAre ov (t.head :: under (t.kids.list.take i))) ⟨rfl, rfl, l28, _, rfl, hl28, .cons _ _ .nil⟩ ?_ ?_
      · intro i w g31 m31 mu31 h31 tk31 E31 hiw hj hle31 S31
        refine Exists.elim hj.2.2 fun oa e => Exists.elim e fun ov hov => ?_
        have S32 := S31.mu_eq hj.1
        have hrows := hj.2.1
        have O31 := O28.mono hle31
        refine Exists.elim (All2.get hak hiw) fun u hu => ?_
        have hmem := List.mem_of_getElem? hu.1
        have hub := IsOb.mono hle31 _ hu.2
        have hwu := Fo.wide_mem _ hwk.2 hmem
        have hdu := Tr.kid_lt hmem
        have hzu := Fo.size_mem t.kids hmem
        have hol := hov.2.2.len_eq
        rw [List.length_cons, under_len] at hol
        have htk := take_lsize t.kids.list i
        refine wpAny_execs_cons ?_
        refine wpAny_Assign_Name ?_
        refine wpAny_BinOp ?_
        refine nm S32 hov.1 ?_
        refine comp_start (cl := []) (by rfl) (by rfl) (by decide) ?_
        refine strM1 F.slot_str_split F.type_str_split ?_
        refine callM ?_
        refine Mine.nm (by assumption) rfl ?_
        refine show_ok O31 ((r _).le) S32.sub hub hwu (by lia) (by lia) fun tok33 h33 tk33 g33 G33 => ?_
        have S33 := S32.after G33
        refine ⟨_, _, rfl, ?_⟩
        refine cStr fun _ _ => ?_
        refine rows_of S33 hwu (by lia) (by lia) fun cl cv h34 tk34 g34 hle34 hcl hcv S34 => ?_
        have hcl2 := hcv.len_eq
        rw [List.length_map, Tr.flat_len] at hcl2
        refine comp_list S34 (r _).1 (hcl.plain S34.sub) (by lia) (fun k ys _ => StrsAre ys ((((u.flat 0).map rowOf).take k).map fun s => Str.ofString "  " ++ s)) .nil (fun k ys _ h => by have := h.len_eq; rw [List.length_map, List.length_take] at this; lia) (by decide) (by rfl) (by rfl) ?_ ?_
        · intro k w2 ys g35 h35 tk35 C' m' E' hkw hj35 hle35 S35
          refine tests_nil (ite_pos rfl ?_)
          refine Exists.elim (hcv.item k w2 hkw) fun y e => Exists.elim e fun ty hy => ?_
          have hyl : y.length ≤ 300 := by
            have hm := List.mem_of_getElem? hy.2
            refine Exists.elim (List.mem_map.mp hm) fun p hp => ?_
            rw [← hp.2, rowOf_len]
            have := Tr.flat_mem 0 u hwu p hp.1
            have := this.2.2.1
            lia
          refine wpAny_BinOp ?_
          refine cStr fun _ _ => ?_
          refine Mine.nm (by assumption) rfl ?_
          refine addSV hy.1 (by have h3 : (Str.ofString "  ").length = 2 := by decide +kernel
                                rw [h3, sizeLine_eq]; lia) fun _ _ => ?_
          refine CAfter.of S35 ?_
          rw [List.take_add_one, hy.2, List.map_append]
          exact StrsAre.snoc hj35 _ _
        · intro D h35 tk35 g35 g36 ys hj35 hle35 hle36 hD S36
          rw [List.take_of_length_le (by rw [List.length_map, Tr.flat_len]; lia)] at hj35
          have hyl := hj35.len_eq
          rw [List.length_map, List.length_map, Tr.flat_len] at hyl
          have hle3136 := G33.le.trans (hle34.trans (hle35.trans hle36))
          refine addL S36 ((hov.2.1.mono hle3136).plain S36.sub) (hD.plain S36.sub) (by lia) fun l37 h37 g37 hle37 hl37 S37 => ?_
          refine stor S37 fun h38 tk38 S38 => ?_
          refine wpAny_execs_nil ?_
          refine ⟨rfl, FAfter.of S38 ⟨rfl, hrows, l37, _, rfl, hl37, ?_⟩⟩
          rw [List.take_add_one, hu.1]
          have e : under (t.kids.list.take i ++ (some u).toList) = under (t.kids.list.take i ++ [u]) := rfl
          rw [e, under_snoc, ← List.cons_append]
          exact StrsAre.append hov.2.2 hj35
      · intro h31 tk31 g31 m31 mu31 hj hle31 S31
        refine Exists.elim hj.2.2 fun oa e => Exists.elim e fun ov hov => ?_
        have S32 := S31.mu_eq hj.1
        have hov2 : StrsAre ov ((t.flat 0).map rowOf) := by
          have h := hov.2.2
          rw [List.take_of_length_le (by lia), ← rows_eq] at h
          exact h
        have hse := fun s => strsEq (A := (A.deeper (envOf nme (scopeOf ((KF Γ).lookup 228)) L fa cdv)).in1) (s := s) hov2 hrv
        refine wpAny_execs_cons ?_
        refine wpAny_Return_some ?_
        refine wpAny_Compare1 ?_
        refine nm S32 hov.1 ?_
        skip
        refine nm S32 hj.2.1 ?_
        refine eqLists (hov.2.1.isList S32.sub) ((hrl28.mono hle31).isList S32.sub) (hse (sh s₀ h31 tk31)).1 (r _).units (fun j v w e1 e2 => (hse _).2 j v w e1 e2) ?_
        exact ret _ _ fun b ob e => S32.sub _ _ (S32.gr.le _ _ e)
end

theorem rm0 (env : Env) : Rm (callerA.deeper env) 10 := ⟨rfl, by show 1 + claimMargin + 1 + 6 * 10 < recursionLimit; decide +kernel, by show 4 + 3 + 40 * 10 < cLine; decide +kernel⟩
theorem law_join {w : World} {s₁ : Shared} {h₁ : Heap} {loose : List Str} {mean : ExcName → Option Value} {mg mb : Str → Option Value} {l fa : Addr} {vs : List Value} {ns : List Int} {nme : Str} {cdv : Value} {Q : Flow → Shared → Prop} {tk : Nat}
    (KX : (hd.heap_39 w.params).In s₁.heap) (T : Top hd.view_39 loose mean mg mb s₁.heap) (F : Fr s₁.heap s₁.heap.objs.size h₁ (fun x => [(Str.ofString "script", Value.ref l)].reverse.lookup x))
    (hL : s₁.heap.IsList l vs.toArray) (hI : IntsAre vs ns) (hc : ¬ (63 : Int) < (ns.length : Int))
    (ret : ∀ h' tk', (∀ b o, s₁.heap.get? b = some o → h'.get? b = some o) → Q (.ret (.bool true)) (sh s₁ h' tk')) :
    wpAny (model Challenge.rw_on0158_01.row.prog w) (callerA.deeper (envOf nme (scopeOf ((hd.heap_39 w.params).lookup 228)) s₁.heap.objs.size fa cdv)) (execs (bodyOf ((hd.heap_39 w.params).lookup 228)) (envOf nme (scopeOf ((hd.heap_39 w.params).lookup 228)) s₁.heap.objs.size fa cdv)) Q (fun _ _ => False) (sh s₁ h₁ tk) := by
  have hlen : vs.length ≤ 1000 := by have := hI.length; lia
  have hLI : LI (fun b => s₁.heap.get? b) l vs := by obtain ⟨o, ho, hc, n, hd⟩ := hL; exact ⟨o, ho, hc, n, hd⟩
  have S : St ⟨h₁, fun b => s₁.heap.get? b, [s₁.heap.objs.size], s₁.heap.objs.size⟩ (fun b => s₁.heap.get? b) (fun x => [(Str.ofString "script", Value.ref l)].reverse.lookup x) [] h₁ :=
    ⟨F.ns, Grow.refl fun b o e => F.keep b o e, get?_none_ge (Nat.le_refl _), by simp, by simp⟩
  exact law_core (Γ := ⟨w, loose, mean, mg, mb⟩) (g := fun b => s₁.heap.get? b) ⟨s₁.heap, fun _ _ e => e, KX, T⟩ rm0 hLI hI hlen S (E := fun _ _ _ => False) fun h' tk' hs => ret h' tk' fun b o e => hs b o e

theorem holds : PySem.Challenge.rw_on0158_01.Holds := hd (by
  k_go0
  refine wpAny_mono (law_join (by assumption) (by assumption) (by assumption) (by assumption) (by assumption) (by assumption) fun h' tk' hk => ?_) (fun _ _ h => h) (fun _ _ e => e.elim)
  refine ⟨.inl ⟨.bool true, .bool true, [], rfl, fun _ => by first | rfl | kernel_rfl, .bool true, postW_of (r := PySem.Challenge.rw_on0158_01.row.toRowW) (X := true) (by first | rfl | kernel_rfl) (by first | rfl | kernel_rfl) rfl, fun _ => ⟨List.nodup_nil, by simp⟩⟩, hk, rfl, by assumption⟩)
end Mine

theorem PySem.Challenge.cw_on0158_01_holds : PySem.Challenge.rw_on0158_01.Holds :=
  Mine.holds
