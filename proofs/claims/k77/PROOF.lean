import PyProof.Rows.All
import Wide.All
import OpenK.AllK
import Wide.FinOn
import HandS.ForMost
import HandS.DictComp
import HandS.IsInst
import HandS.Strs
import HandS.Steps
import HandS.Codes
import HandS.Zip
import HandS.Defaults
import HandS.Exc
import HandS.HeadHook1
import HandS.HeadHook2
import HandS.HeadHook3
import HandS.HeadHook4
import HandS.SetFor
import HandS.Ends
import HandS.HeadEnd
import HandS.RaiseMore
import HandS.Conv
import KE.KStateDown
import Lean
import HandS.Head0
import HandS.Head1
import HandS.Head2
import PySem.Challenge.RW_timesdone_k77_whole_rings_of_houses
import PyProof.ReprLen
set_option Elab.async false
set_option linter.all false
set_option maxRecDepth 100000
set_option maxHeartbeats 1000000
/-! GX1: data D and how a heap bears it (Rp); what may change (Wd, Ch); what an expression is worth (Ev), by the layer's own rules. -/
namespace GX
open PySem L2

/-- data -/
inductive D where
  | non | bl (b : Bool) | int (i : Int) | str (x : Str)
  | lst (l : List D) | tup (l : List D) | dic (l : List (Key × D)) | ins (c : Str) (l : List (Str × D))

mutual
/-- the value v is the data d, in H -/
inductive Rp (K : PySem.W.Frag) (mg : Str → Option Value) (H : Hp) : V → D → Prop
  | non : Rp K mg H .non .non
  | bl (b : Bool) : Rp K mg H (.bl b) (.bl b)
  | int (i : Int) : Rp K mg H (.int i) (.int i)
  | str (x : Str) : Rp K mg H (.str x) (.str x)
  | lst {a : Addr} {vs : List V} {ds : List D} : SqL K H a vs → RpA K mg H vs ds → Rp K mg H (.ref a) (.lst ds)
  | tup {a : Addr} {vs : List V} {ds : List D} : SqT K H a vs → RpA K mg H vs ds → Rp K mg H (.ref a) (.tup ds)
  | dic {a : Addr} {kvs : List (Key × V)} {ds : List (Key × D)} : H a = some (.dK kvs) → RpK K mg H kvs ds → Rp K mg H (.ref a) (.dic ds)
  | ins {a C dx : Addr} {c : Str} {fs : List (Str × V)} {ds : List (Str × D)} : mg c = some (.ref C) → H a = some (.ins C dx fs) → H dx = some (.own a) → RpF K mg H fs ds → Rp K mg H (.ref a) (.ins c ds)
inductive RpA (K : PySem.W.Frag) (mg : Str → Option Value) (H : Hp) : List V → List D → Prop
  | nil : RpA K mg H [] []
  | cons {v : V} {vs : List V} {d : D} {ds : List D} : Rp K mg H v d → RpA K mg H vs ds → RpA K mg H (v :: vs) (d :: ds)
inductive RpK (K : PySem.W.Frag) (mg : Str → Option Value) (H : Hp) : List (Key × V) → List (Key × D) → Prop
  | nil : RpK K mg H [] []
  | cons {k : Key} {v : V} {vs : List (Key × V)} {d : D} {ds : List (Key × D)} : Rp K mg H v d → RpK K mg H vs ds → RpK K mg H ((k, v) :: vs) ((k, d) :: ds)
inductive RpF (K : PySem.W.Frag) (mg : Str → Option Value) (H : Hp) : List (Str × V) → List (Str × D) → Prop
  | nil : RpF K mg H [] []
  | cons {k : Str} {v : V} {vs : List (Str × V)} {d : D} {ds : List (Str × D)} : Rp K mg H v d → RpF K mg H vs ds → RpF K mg H ((k, v) :: vs) ((k, d) :: ds)
end

/-- all that G tells H tells too -/
def Ext (G H : Hp) : Prop := ∀ a o, G a = some o → H a = some o
theorem Ext.refl (G : Hp) : Ext G G := fun _ _ h => h
theorem Ext.trans {A B C : Hp} (h : Ext A B) (k : Ext B C) : Ext A C := fun a o e => k a o (h a o e)
theorem Ext.rd {G H : Hp} {a : Addr} {u : HO} (e : Ext G H) (h : Rd G a u) : Rd H a u := by
  rcases h with h | ⟨o, h⟩
  · exact .inl (e a _ h)
  · exact .inr ⟨o, e a _ h⟩
theorem Ext.l {K : PySem.W.Frag} {G H : Hp} {a : Addr} {xs : List V} (e : Ext G H) (h : SqL K G a xs) : SqL K H a xs := h.elim (fun z => .inl (e.rd z)) .inr
theorem Ext.t {K : PySem.W.Frag} {G H : Hp} {a : Addr} {xs : List V} (e : Ext G H) (h : SqT K G a xs) : SqT K H a xs := h.elim (fun z => .inl (e.rd z)) .inr

section
variable {K : PySem.W.Frag} {mg : Str → Option Value} {G H : Hp}
mutual
theorem Rp.mono (e : Ext G H) : ∀ {v : V} {d : D}, Rp K mg G v d → Rp K mg H v d
  | _, _, .non => .non
  | _, _, .bl b => .bl b
  | _, _, .int i => .int i
  | _, _, .str x => .str x
  | _, _, .lst h r => .lst (e.l h) (RpA.mono e r)
  | _, _, .tup h r => .tup (e.t h) (RpA.mono e r)
  | _, _, .dic h r => .dic (e _ _ h) (RpK.mono e r)
  | _, _, .ins c h x r => .ins c (e _ _ h) (e _ _ x) (RpF.mono e r)
theorem RpA.mono (e : Ext G H) : ∀ {v : List V} {d : List D}, RpA K mg G v d → RpA K mg H v d
  | _, _, .nil => .nil
  | _, _, .cons r s => .cons (Rp.mono e r) (RpA.mono e s)
theorem RpK.mono (e : Ext G H) : ∀ {v : List (Key × V)} {d : List (Key × D)}, RpK K mg G v d → RpK K mg H v d
  | _, _, .nil => .nil
  | _, _, .cons r s => .cons (Rp.mono e r) (RpK.mono e s)
theorem RpF.mono (e : Ext G H) : ∀ {v : List (Str × V)} {d : List (Str × D)}, RpF K mg G v d → RpF K mg H v d
  | _, _, .nil => .nil
  | _, _, .cons r s => .cons (Rp.mono e r) (RpF.mono e s)
end
theorem RpA.length : ∀ {vs : List V} {ds : List D}, RpA K mg G vs ds → vs.length = ds.length
  | _, _, .nil => rfl
  | _, _, .cons _ r => congrArg (· + 1) r.length
theorem RpA.append : ∀ {vs ws : List V} {ds es : List D}, RpA K mg G vs ds → RpA K mg G ws es → RpA K mg G (vs ++ ws) (ds ++ es)
  | _, _, _, _, .nil, s => s
  | _, _, _, _, .cons r t, s => .cons r (t.append s)
theorem RpA.get : ∀ {vs : List V} {ds : List D} {i : Nat} {d : D}, RpA K mg G vs ds → ds[i]? = some d → ∃ v, vs[i]? = some v ∧ Rp K mg G v d
  | _, _, i, d, .nil, e => by simp at e
  | _, _, 0, d, .cons r _, e => ⟨_, rfl, by simp at e; subst e; exact r⟩
  | _, _, i + 1, d, .cons _ s, e => by
    obtain ⟨v, h1, h2⟩ := s.get (i := i) (d := d) (by simpa using e)
    exact ⟨v, by simpa using h1, h2⟩
theorem RpA.getV : ∀ {vs : List V} {ds : List D} {i : Nat} {v : V}, RpA K mg G vs ds → vs[i]? = some v → ∃ d, ds[i]? = some d ∧ Rp K mg G v d
  | _, _, i, d, .nil, e => by simp at e
  | _, _, 0, d, .cons r _, e => ⟨_, rfl, by simp at e; subst e; exact r⟩
  | _, _, i + 1, d, .cons _ s, e => by
    obtain ⟨v, h1, h2⟩ := s.getV (i := i) (v := d) (by simpa using e)
    exact ⟨v, by simpa using h1, h2⟩
theorem RpA.take : ∀ {vs : List V} {ds : List D} (n : Nat), RpA K mg G vs ds → RpA K mg G (vs.take n) (ds.take n)
  | _, _, 0, _ => .nil
  | _, _, _ + 1, .nil => .nil
  | _, _, n + 1, .cons r s => .cons r (s.take n)
theorem RpA.drop : ∀ {vs : List V} {ds : List D} (n : Nat), RpA K mg G vs ds → RpA K mg G (vs.drop n) (ds.drop n)
  | _, _, 0, h => h
  | _, _, _ + 1, .nil => .nil
  | _, _, n + 1, .cons _ s => s.drop n
theorem RpA.eraseIdx : ∀ {vs : List V} {ds : List D} (n : Nat), RpA K mg G vs ds → RpA K mg G (vs.eraseIdx n) (ds.eraseIdx n)
  | _, _, _, .nil => .nil
  | _, _, 0, .cons _ s => s
  | _, _, n + 1, .cons r s => .cons r (s.eraseIdx n)
theorem RpA.dropLast : ∀ {vs : List V} {ds : List D}, RpA K mg G vs ds → RpA K mg G vs.dropLast ds.dropLast
  | _, _, .nil => .nil
  | _, _, .cons _ .nil => .nil
  | _, _, .cons r (.cons r2 s) => .cons r (RpA.dropLast (.cons r2 s))
theorem RpA.set : ∀ {vs : List V} {ds : List D} (n : Nat) {v : V} {d : D}, RpA K mg G vs ds → Rp K mg G v d → RpA K mg G (vs.set n v) (ds.set n d)
  | _, _, _, _, _, .nil, _ => .nil
  | _, _, 0, _, _, .cons _ s, q => .cons q s
  | _, _, n + 1, _, _, .cons r s, q => .cons r (s.set n q)
theorem RpA.reverse {vs : List V} {ds : List D} (h : RpA K mg G vs ds) : RpA K mg G vs.reverse ds.reverse := by
  induction vs generalizing ds with
  | nil => cases h; exact .nil
  | cons v vs ih =>
    cases h with
    | cons r s => rw [List.reverse_cons, List.reverse_cons]; exact (ih s).append (.cons r .nil)
theorem RpA.rep {v : V} {d : D} (r : Rp K mg G v d) : ∀ n : Nat, RpA K mg G (List.replicate n v) (List.replicate n d)
  | 0 => .nil
  | n + 1 => .cons r (RpA.rep r n)
theorem RpA.ints : ∀ (ns : List Int), RpA K mg G (ns.map V.int) (ns.map D.int)
  | [] => .nil
  | n :: ns => .cons (.int n) (RpA.ints ns)
theorem RpA.ints_v : ∀ {ns : List Int} {vs : List V}, RpA K mg G vs (ns.map D.int) → vs = ns.map V.int
  | [], _, .nil => rfl
  | _ :: _, _, .cons (.int n) s => by rw [List.map_cons, RpA.ints_v s]
theorem RpA.strs : ∀ (ns : List Str), RpA K mg G (ns.map V.str) (ns.map D.str)
  | [] => .nil
  | n :: ns => .cons (.str n) (RpA.strs ns)
theorem RpA.strs_v : ∀ {ns : List Str} {vs : List V}, RpA K mg G vs (ns.map D.str) → vs = ns.map V.str
  | [], _, .nil => rfl
  | _ :: _, _, .cons (.str n) s => by rw [List.map_cons, RpA.strs_v s]
theorem RpA.bls_v : ∀ {ns : List Bool} {vs : List V}, RpA K mg G vs (ns.map D.bl) → vs = ns.map V.bl
  | [], _, .nil => rfl
  | _ :: _, _, .cons (.bl n) s => by rw [List.map_cons, RpA.bls_v s]
theorem Rp.int_v {v : V} {i : Int} (h : Rp K mg G v (.int i)) : v = .int i := by cases h; rfl
theorem Rp.bl_v {v : V} {b : Bool} (h : Rp K mg G v (.bl b)) : v = .bl b := by cases h; rfl
theorem Rp.str_v {v : V} {x : Str} (h : Rp K mg G v (.str x)) : v = .str x := by cases h; rfl
theorem Rp.non_v {v : V} (h : Rp K mg G v .non) : v = .non := by cases h; rfl
end

/-! ### what may change -/
/-- objects that may change (M), by what stays true of them (J) -/
structure Wd where
  M : Addr → Prop
  J : Hp → Prop
  st : ∀ H H', (∀ a, M a → H' a = H a) → J H → J H'
  tr : ∀ H, J H → ∀ a, M a → H a ≠ none
def W0 : Wd := ⟨fun _ => False, fun _ => True, fun _ _ _ _ => trivial, fun _ _ _ h => h.elim⟩
abbrev N0 : Addr → Prop := fun _ => False
structure Ok (W : Wd) (G H : Hp) : Prop where
  gh : Ext G H
  j : W.J H
  gm : ∀ a, W.M a → G a = none
/-- from (G, H) to (G', H'): all that is tracked stays, but M's and S's; what is known only grows by what is new -/
structure Ch (W : Wd) (S : Addr → Prop) (G H G' H' : Hp) : Prop where
  hh : ∀ a o, ¬ W.M a → ¬ S a → H a = some o → H' a = some o
  gg : Ext G G'
  fr : ∀ a, H a ≠ none → G a = none → G' a = none
  th : ∀ a, H a ≠ none → H' a ≠ none
  ok : Ok W G' H'
section
variable {W : Wd} {S T : Addr → Prop} {G H G1 H1 G2 H2 : Hp} {p : Addr} {o : HO}
theorem Ch.refl (k : Ok W G H) : Ch W S G H G H := ⟨fun _ _ _ _ h => h, Ext.refl G, fun _ _ h => h, fun _ h => h, k⟩
theorem Ch.trans (a : Ch W S G H G1 H1) (b : Ch W S G1 H1 G2 H2) : Ch W S G H G2 H2 :=
  ⟨fun x o m s h => b.hh x o m s (a.hh x o m s h), a.gg.trans b.gg, fun x h g => b.fr x (a.th x h) (a.fr x h g), fun x h => b.th x (a.th x h), b.ok⟩
theorem Ch.sub (a : Ch W S G H G1 H1) (h : ∀ x, S x → T x) : Ch W T G H G1 H1 := ⟨fun x o m s => a.hh x o m fun z => s (h x z), a.gg, a.fr, a.th, a.ok⟩
theorem Ch.of0 (a : Ch W N0 G H G1 H1) : Ch W S G H G1 H1 := a.sub fun _ h => h.elim
theorem Ok.nm (k : Ok W G H) (hp : H p = none) : ¬ W.M p := fun m => W.tr H k.j p m hp
theorem Ok.gnone (k : Ok W G H) (hp : H p = none) : G p = none := by
  cases q : G p with
  | none => rfl
  | some o => rw [k.gh p o q] at hp; cases hp
theorem Ok.J_new (k : Ok W G H) (hp : H p = none) : W.J (upd H p o) := W.st H _ (fun a m => upd_ne (fun z : a = p => k.nm hp (by rw [← z]; exact m))) k.j
/-- a new object, known -/
theorem Ch.new (k : Ok W G H) (hp : H p = none) : Ch W S G H (upd G p o) (upd H p o) where
  hh := fun a u _ _ h => by rw [upd_ne (ne_of_none h hp)]; exact h
  gg := fun a u h => by rw [upd_ne (ne_of_none (k.gh a u h) hp)]; exact h
  fr := fun a h g => by rw [upd_ne (fun z : a = p => h (by rw [z]; exact hp))]; exact g
  th := fun a h => by
    by_cases e : a = p
    · subst e; rw [upd_same]; exact fun z => nomatch z
    · rw [upd_ne e]; exact h
  ok := ⟨fun a u h => by
    by_cases e : a = p
    · subst e; rw [upd_same] at h ⊢; exact h
    · rw [upd_ne e] at h ⊢; exact k.gh a u h, k.J_new hp, fun a m => by rw [upd_ne (fun z : a = p => k.nm hp (by rw [← z]; exact m))]; exact k.gm a m⟩
/-- a new object, not known: it may be changed -/
theorem Ch.own (k : Ok W G H) (hp : H p = none) : Ch W S G H G (upd H p o) where
  hh := fun a u _ _ h => by rw [upd_ne (ne_of_none h hp)]; exact h
  gg := Ext.refl G
  fr := fun a h g => g
  th := fun a h => by
    by_cases e : a = p
    · subst e; rw [upd_same]; exact fun z => nomatch z
    · rw [upd_ne e]; exact h
  ok := ⟨fun a u h => by rw [upd_ne (ne_of_none (k.gh a u h) hp)]; exact k.gh a u h, k.J_new hp, k.gm⟩
/-- an object that is not known is changed -/
theorem Ch.write (k : Ok W G H) (hg : G p = none) (hm : ¬ W.M p) (hs : S p) : Ch W S G H G (upd H p o) where
  hh := fun a u _ s h => by rw [upd_ne (fun z : a = p => s (by rw [z]; exact hs))]; exact h
  gg := Ext.refl G
  fr := fun a h g => g
  th := fun a h => by
    by_cases e : a = p
    · subst e; rw [upd_same]; exact fun z => nomatch z
    · rw [upd_ne e]; exact h
  ok := ⟨fun a u h => by rw [upd_ne (ne_of_none h hg)]; exact k.gh a u h, W.st H _ (fun a m => upd_ne (fun z : a = p => hm (by rw [← z]; exact m))) k.j, k.gm⟩
/-- what was made behind (G, H) becomes known -/
theorem Ch.freeze (c : Ch W S G H G1 H1) (hp : H p = none) (hp1 : H1 p = some o) (hg : G1 p = none) (hm : ¬ W.M p) : Ch W S G H (upd G1 p o) H1 where
  hh := c.hh
  gg := fun a u h => by rw [upd_ne (ne_of_none (c.gg a u h) hg)]; exact c.gg a u h
  fr := fun a h g => by rw [upd_ne (fun z : a = p => h (by rw [z]; exact hp))]; exact c.fr a h g
  th := c.th
  ok := ⟨fun a u h => by
    by_cases e : a = p
    · subst e; rw [upd_same] at h; cases h; exact hp1
    · rw [upd_ne e] at h; exact c.ok.gh a u h, c.ok.j, fun a m => by rw [upd_ne (fun z : a = p => hm (by rw [← z]; exact m))]; exact c.ok.gm a m⟩
end

/-! ### the readings as they stand: any piece of syntax bears the weakest one -/
def semE (X : Cx) (e : Expr) : TE := fun σ H Q => ∀ pins s, Inv X pins σ H s → wpAny (model X.prog X.w) X.A (eval e X.env) (EP X pins σ Q) X.xe s
def semT (X : Cx) (e : Expr) : TT := fun σ H Q => ∀ pins s, Inv X pins σ H s → wpAny (model X.prog X.w) X.A (isTrue e X.env (eval e X.env)) (TP X pins σ Q) X.xe s
def semW (X : Cx) (e : Expr) : TT := fun σ H Q => ∀ (whole : Sem Value) pins s, Inv X pins σ H s → wpAny (model X.prog X.w) X.A (isTrue e X.env whole) (TP X pins σ Q) X.xe s
def semA (X : Cx) (es : List Expr) : TA := fun σ H Q => ∀ (pos : Pos) pins s, Inv X pins σ H s → wpAny (model X.prog X.w) X.A (spliced (backTo pos (starEach es X.env))) (AP X pins σ Q) X.xe s
def semS (X : Cx) (st : Stmt) : TS := fun D σ H => ∀ pins s, Inv X pins σ H s → wpAny (model X.prog X.w) X.A (exec st X.env) (SP X pins D) X.xe s
def semB (X : Cx) (st : List Stmt) : TS := fun D σ H => ∀ pins s, Inv X pins σ H s → wpAny (model X.prog X.w) X.A (execs st X.env) (SP X pins D) X.xe s
def semI (X : Cx) (tg it : Expr) : TI := fun σ H R => ∀ pins s, Inv X pins σ H s → wpAny (model X.prog X.w) X.A (eval it X.env) (fun v s1 => wpAny (model X.prog X.w) X.A (pyIter v) (PIE X pins σ tg R) X.xe s1) X.xe s
def semG (X : Cx) (tg : Expr) : TG := fun v σ H Q => ∀ pins s u, Inv X pins σ H s → RelV v u → wpAny (model X.prog X.w) X.A (assign tg X.env u) (fun _ s' => ∃ σ' H', Inv X pins σ' H' s' ∧ Q σ' H') X.xe s
def semTs (X : Cx) (ifs : List Expr) : TT := fun σ H Q => ∀ pins s, Inv X pins σ H s →
    wpAny (model X.prog X.w) X.A (forIn ifs true fun c r => if r = true then do let ok ← isTrue c X.env (eval c X.env); pure (ForInStep.yield ok) else pure (ForInStep.yield r)) (TP X pins σ Q) X.xe s
section
variable {X : Cx} {e : Expr} {es : List Expr} {st : Stmt} {sts : List Stmt} {tg : Expr}
theorem pe_sem : PE X e (semE X e) := ⟨fun pins s σ H Q I h => h pins s I⟩
theorem pt_sem : PT X e (semT X e) := ⟨fun pins s σ H Q I h => h pins s I⟩
theorem pw_sem : PW X e (semW X e) := ⟨fun wh pins s σ H Q I h => h wh pins s I⟩
theorem pa_sem : PA X es (semA X es) := ⟨fun pos pins s σ H Q I h => h pos pins s I⟩
theorem ps_sem : PS X st (semS X st) := ⟨fun pins s σ H D I h => h pins s I⟩
theorem pss_sem : PSs X sts (semB X sts) := ⟨fun pins s σ H D I h => h pins s I⟩
theorem pi_sem : PI X tg e (semI X tg e) := ⟨fun pins s σ H R I h => h pins s I⟩
theorem pg_sem : PG X tg (semG X tg) := ⟨fun pins s σ H v u Q I r h => h pins s u I r⟩
theorem pts_sem : PTs X es (semTs X es) := ⟨fun pins s σ H Q I h => h pins s I⟩
theorem semE_of {t : TE} {σ : St} {H : Hp} {Q : VK} (p : PE X e t) (h : t σ H Q) : semE X e σ H Q := fun pins s I => p.run pins s σ H Q I h
theorem semT_of {t : TT} {σ : St} {H : Hp} {Q : Bool → Hp → Prop} (p : PT X e t) (h : t σ H Q) : semT X e σ H Q := fun pins s I => p.run pins s σ H Q I h
theorem semW_of {t : TT} {σ : St} {H : Hp} {Q : Bool → Hp → Prop} (p : PW X e t) (h : t σ H Q) : semW X e σ H Q := fun wh pins s I => p.run wh pins s σ H Q I h
theorem semA_of {t : TA} {σ : St} {H : Hp} {Q : List V → Hp → Prop} (p : PA X es t) (h : t σ H Q) : semA X es σ H Q := fun pos pins s I => p.run pos pins s σ H Q I h
theorem semS_of {t : TS} {σ : St} {H : Hp} {D : Ends} (p : PS X st t) (h : t D σ H) : semS X st D σ H := fun pins s I => p.run pins s σ H D I h
theorem semB_of {t : TS} {σ : St} {H : Hp} {D : Ends} (p : PSs X sts t) (h : t D σ H) : semB X sts D σ H := fun pins s I => p.run pins s σ H D I h
theorem semI_of {t : TI} {σ : St} {H : Hp} {R : It → Hp → Prop} (p : PI X tg e t) (h : t σ H R) : semI X tg e σ H R := fun pins s I => p.run pins s σ H R I h
theorem semG_of {t : TG} {σ : St} {H : Hp} {v : V} {Q : St → Hp → Prop} (p : PG X tg t) (h : t v σ H Q) : semG X tg v σ H Q := fun pins s u I r => p.run pins s σ H v u Q I r h
theorem semTs_of {t : TT} {σ : St} {H : Hp} {Q : Bool → Hp → Prop} (p : PTs X es t) (h : t σ H Q) : semTs X es σ H Q := fun pins s I => p.run pins s σ H Q I h
end

/-! ### what an expression is worth -/
section
variable (X : Cx) (W : Wd)
/-- e is worth some data that P holds of -/
def Ev (e : Expr) (σ : St) (G H : Hp) (P : D → Prop) : Prop := ∀ G1 H1, Ch W N0 G H G1 H1 → ∀ Q : VK, (∀ v d G2 H2, Ch W N0 G1 H1 G2 H2 → P d → Rp X.K X.mg G2 v d → Q v H2) → semE X e σ H1 Q
/-- .. a new list, that nobody else knows -/
def EvN (e : Expr) (σ : St) (G H : Hp) (P : List D → Prop) : Prop := ∀ G1 H1, Ch W N0 G H G1 H1 → ∀ Q : VK, (∀ p vs ds G2 H2, Ch W N0 G1 H1 G2 H2 → H1 p = none → G2 p = none → ¬ W.M p → H2 p = some (.lst vs) → RpA X.K X.mg G2 vs ds → P ds → Q (.ref p) H2) → semE X e σ H1 Q
/-- .. a new dict -/
def EvD (e : Expr) (σ : St) (G H : Hp) (P : List (Key × D) → Prop) : Prop := ∀ G1 H1, Ch W N0 G H G1 H1 → ∀ Q : VK, (∀ p vs ds G2 H2, Ch W N0 G1 H1 G2 H2 → H1 p = none → G2 p = none → ¬ W.M p → H2 p = some (.dK vs) → RpK X.K X.mg G2 vs ds → P ds → Q (.ref p) H2) → semE X e σ H1 Q
def EvT (e : Expr) (σ : St) (G H : Hp) (P : Bool → Prop) : Prop := ∀ G1 H1, Ch W N0 G H G1 H1 → ∀ Q : Bool → Hp → Prop, (∀ b G2 H2, Ch W N0 G1 H1 G2 H2 → P b → Q b H2) → semT X e σ H1 Q
def EvW (e : Expr) (σ : St) (G H : Hp) (P : Bool → Prop) : Prop := ∀ G1 H1, Ch W N0 G H G1 H1 → ∀ Q : Bool → Hp → Prop, (∀ b G2 H2, Ch W N0 G1 H1 G2 H2 → P b → Q b H2) → semW X e σ H1 Q
def EvA (es : List Expr) (σ : St) (G H : Hp) (P : List D → Prop) : Prop := ∀ G1 H1, Ch W N0 G H G1 H1 → ∀ Q : List V → Hp → Prop, (∀ vs ds G2 H2, Ch W N0 G1 H1 G2 H2 → P ds → RpA X.K X.mg G2 vs ds → Q vs H2) → semA X es σ H1 Q
end
section
variable {X : Cx} {W : Wd} {e a b c : Expr} {es : List Expr} {σ : St} {G H : Hp} {P P1 P2 : D → Prop} {pos : Pos}
theorem Ev.imp (h : Ev X W e σ G H P1) (k : ∀ d, P1 d → P2 d) : Ev X W e σ G H P2 := fun G1 H1 c Q q => h G1 H1 c Q fun v d G2 H2 c2 p r => q v d G2 H2 c2 (k d p) r
theorem Ev.ch {G' H' : Hp} (h : Ev X W e σ G H P) (c : Ch W N0 G H G' H') : Ev X W e σ G' H' P := fun G1 H1 c1 Q q => h G1 H1 (c.trans c1) Q q
theorem EvT.imp {P1 P2 : Bool → Prop} (h : EvT X W e σ G H P1) (k : ∀ d, P1 d → P2 d) : EvT X W e σ G H P2 := fun G1 H1 c Q q => h G1 H1 c Q fun b G2 H2 c2 p => q b G2 H2 c2 (k b p)
theorem EvA.imp {P1 P2 : List D → Prop} (h : EvA X W es σ G H P1) (k : ∀ d, P1 d → P2 d) : EvA X W es σ G H P2 := fun G1 H1 c Q q => h G1 H1 c Q fun b d G2 H2 c2 p => q b d G2 H2 c2 (k d p)
theorem EvN.imp {P1 P2 : List D → Prop} (h : EvN X W e σ G H P1) (k : ∀ d, P1 d → P2 d) : EvN X W e σ G H P2 := fun G1 H1 c Q q => h G1 H1 c Q fun p vs ds G2 H2 c2 h1 h2 h3 h4 h5 h6 => q p vs ds G2 H2 c2 h1 h2 h3 h4 h5 (k ds h6)
theorem EvD.imp {P1 P2 : List (Key × D) → Prop} (h : EvD X W e σ G H P1) (k : ∀ d, P1 d → P2 d) : EvD X W e σ G H P2 := fun G1 H1 c Q q => h G1 H1 c Q fun p vs ds G2 H2 c2 h1 h2 h3 h4 h5 h6 => q p vs ds G2 H2 c2 h1 h2 h3 h4 h5 (k ds h6)
/-- a new list that is kept as it is -/
theorem EvN.fz {P : List D → Prop} (h : EvN X W e σ G H P) : Ev X W e σ G H (fun d => ∃ ds, d = .lst ds ∧ P ds) := fun G1 H1 c Q q =>
  h G1 H1 c Q fun p vs ds G2 H2 c2 h1 h2 h3 h4 h5 h6 => q (.ref p) (.lst ds) (upd G2 p (.lst vs)) H2 (c2.freeze h1 h4 h2 h3) ⟨ds, rfl, h6⟩
    (.lst (SqL.of upd_same) (h5.mono fun a u z => by rw [upd_ne (ne_of_none z h2)]; exact z))
theorem EvN.fz1 {ds : List D} (h : EvN X W e σ G H (· = ds)) : Ev X W e σ G H (· = .lst ds) := h.fz.imp fun d ⟨ds', e, h⟩ => by rw [e, h]
theorem EvD.fz {P : List (Key × D) → Prop} (h : EvD X W e σ G H P) : Ev X W e σ G H (fun d => ∃ ds, d = .dic ds ∧ P ds) := fun G1 H1 c Q q =>
  h G1 H1 c Q fun p vs ds G2 H2 c2 h1 h2 h3 h4 h5 h6 => q (.ref p) (.dic ds) (upd G2 p (.dK vs)) H2 (c2.freeze h1 h4 h2 h3) ⟨ds, rfl, h6⟩
    (.dic upd_same (h5.mono fun a u z => by rw [upd_ne (ne_of_none z h2)]; exact z))
theorem EvD.fz1 {ds : List (Key × D)} (h : EvD X W e σ G H (· = ds)) : Ev X W e σ G H (· = .dic ds) := h.fz.imp fun d ⟨ds', e, h⟩ => by rw [e, h]

/-! names, constants -/
theorem ev_v (i : Nat) {x : Str} {v : V} {d : D} (hr : Rp X.K X.mg G v d) (hs : σ[i]? = some (some v) := by rfl) (hN : X.N[i]? = some x := by rfl)
    (hv : Vis X.env.scope x := by first | exact Or.inl rfl | exact Or.inr (Or.inl rfl) | exact Or.inr (Or.inr rfl)) (hd : (x == ("__debug__" : Str)) = false := by decide) (hcd : (x == ("__classdict__" : Str)) = false := by decide) : Ev X W (.Name x pos) σ G H (· = d) :=
  fun G1 H1 c Q q => semE_of (pe_var hN hv hd hcd) ⟨v, hs, q v d G1 H1 (Ch.refl c.ok) rfl (hr.mono c.gg)⟩
theorem ev_int {i : Int} {j pos} : Ev X W (.Constant (.int i) j pos) σ G H (· = .int i) := fun G1 H1 c Q q => semE_of pe_int (q _ _ G1 H1 (Ch.refl c.ok) rfl (.int i))
theorem ev_bl {i : Bool} {j pos} : Ev X W (.Constant (.bool i) j pos) σ G H (· = .bl i) := fun G1 H1 c Q q => semE_of pe_bl (q _ _ G1 H1 (Ch.refl c.ok) rfl (.bl i))
theorem ev_non {j pos} : Ev X W (.Constant .none j pos) σ G H (· = .non) := fun G1 H1 c Q q => semE_of pe_non (q _ _ G1 H1 (Ch.refl c.ok) rfl .non)
theorem ev_str {x : Str} {j pos} : Ev X W (.Constant (.str x) j pos) σ G H (· = .str x) := fun G1 H1 c Q q => semE_of pe_str (q _ _ G1 H1 (Ch.refl c.ok) rfl (.str x))
/-- a module's constant -/
theorem ev_glob {x : Str} {v : V} {u : Value} {d : D} (hm : X.mg x = some u) (r : RelV v u) (hr : ∀ G, Rp X.K X.mg G v d) (hg : Gl X x := by rfl) (hd : (x == ("__debug__" : Str)) = false := by decide) : Ev X W (.Name x pos) σ G H (· = d) :=
  fun G1 H1 c Q q => semE_of (pe_glob hg hm r hd) (q v d G1 H1 (Ch.refl c.ok) rfl (hr G1))
theorem ev_globI {x : Str} {i : Int} (hm : ∃ t, X.mg x = some (.int i t)) (hg : Gl X x := by rfl) (hd : (x == ("__debug__" : Str)) = false := by decide) : Ev X W (.Name x pos) σ G H (· = .int i) := by
  obtain ⟨t, hm⟩ := hm
  exact ev_glob hm (v := .int i) ⟨t, rfl⟩ (fun G => .int i) hg hd
theorem ev_globS {x y : Str} (hm : ∃ t, X.mg x = some (.str y t)) (hg : Gl X x := by rfl) (hd : (x == ("__debug__" : Str)) = false := by decide) : Ev X W (.Name x pos) σ G H (· = .str y) := by
  obtain ⟨t, hm⟩ := hm
  exact ev_glob hm (v := .str y) ⟨t, rfl⟩ (fun G => .str y) hg hd

/-! two operands -/
/-- what r asks of x, y -/
def RR (X : Cx) (W : Wd) (r : R2) (P1 P2 P : D → Prop) : Prop := ∀ x y d1 d2 G1 H1, Ok W G1 H1 → P1 d1 → P2 d2 → Rp X.K X.mg G1 x d1 → Rp X.K X.mg G1 y d2 → ∀ Q : VK, (∀ v d G2 H2, Ch W N0 G1 H1 G2 H2 → P d → Rp X.K X.mg G2 v d → Q v H2) → r x y H1 Q
theorem ev_tOp {r : R2} {f : Expr} (h : ∀ ta tb, PE X a ta → PE X b tb → PE X f (tOp r ta tb)) (ha : Ev X W a σ G H P1) (hb : Ev X W b σ G H P2) (hr : RR X W r P1 P2 P) : Ev X W f σ G H P := fun G1 H1 c Q q =>
  semE_of (h _ _ pe_sem pe_sem) (ha G1 H1 c _ fun x d1 G2 H2 c2 p1 r1 => hb G2 H2 (c.trans c2) _ fun y d2 G3 H3 c3 p2 r2 =>
    hr x y d1 d2 G3 H3 c3.ok p1 p2 (r1.mono c3.gg) r2 Q fun v d G4 H4 c4 p r => q v d G4 H4 ((c2.trans c3).trans c4) p r)
theorem ev_bin {op : Operator} {r : R2} (ho : OpR X (binaryOp op) r) (ha : Ev X W a σ G H P1) (hb : Ev X W b σ G H P2) (hr : RR X W r P1 P2 P) : Ev X W (.BinOp a op b pos) σ G H P :=
  ev_tOp (fun _ _ p q => pe_op ho p q) ha hb hr
theorem ev_cmp {op : CmpOp} {r : R2} (ho : OpR X (compareOp op) r) (ha : Ev X W a σ G H P1) (hb : Ev X W b σ G H P2) (hr : RR X W r P1 P2 P) (hm : behindInMarks op b = false := by first | rfl | exact nomark _) : Ev X W (.Compare a [op] [b] pos) σ G H P :=
  ev_tOp (fun _ _ p q => pe_cmpR ho p q hm) ha hb hr
/-- a comparison as a test -/
theorem et_cmp {op : CmpOp} {r : R2} {PB : Bool → Prop} (ho : OpR X (compareOp op) r) (ha : Ev X W a σ G H P1) (hb : Ev X W b σ G H P2) (hr : RR X W r P1 P2 (fun d => ∃ k, d = .bl k ∧ PB k)) (hm : behindInMarks op b = false := by first | rfl | exact nomark _) : EvT X W (.Compare a [op] [b] pos) σ G H PB := fun G1 H1 c Q q =>
  semT_of (pt_cmpR ho pe_sem pe_sem hm) (ha G1 H1 c _ fun x d1 G2 H2 c2 p1 r1 => hb G2 H2 (c.trans c2) _ fun y d2 G3 H3 c3 p2 r2 =>
    hr x y d1 d2 G3 H3 c3.ok p1 p2 (r1.mono c3.gg) r2 _ fun v d G4 H4 c4 ⟨k, e, p⟩ r => by
      subst e
      exact ⟨k, r.bl_v, q k G4 H4 ((c2.trans c3).trans c4) p⟩)
theorem rr_I0 {g : Int → Int → V} {g' : Int → Int → D} {i j : Int} (hg : ∀ i j G, Rp X.K X.mg G (g i j) (g' i j)) : RR X W (rI0 g) (· = .int i) (· = .int j) (· = g' i j) := fun x y d1 d2 G1 H1 k p1 p2 r1 r2 Q q => by
  subst p1; subst p2
  exact ⟨i, j, r1.int_v, r2.int_v, q _ _ G1 H1 (Ch.refl k) rfl (hg i j G1)⟩
theorem rr_I {C : Int → Int → Prop} {g : Int → Int → V} {g' : Int → Int → D} {i j : Int} (hc : C i j) (hg : ∀ i j G, Rp X.K X.mg G (g i j) (g' i j)) : RR X W (rI C g) (· = .int i) (· = .int j) (· = g' i j) := fun x y d1 d2 G1 H1 k p1 p2 r1 r2 Q q => by
  subst p1; subst p2
  exact ⟨i, j, r1.int_v, r2.int_v, hc, q _ _ G1 H1 (Ch.refl k) rfl (hg i j G1)⟩
variable {i j : Int}
theorem ev_add (ha : Ev X W a σ G H (· = .int i)) (hb : Ev X W b σ G H (· = .int j)) : Ev X W (.BinOp a .Add b pos) σ G H (· = .int (i + j)) := ev_bin op_add ha hb (rr_I0 fun _ _ _ => .int _)
theorem ev_sub (ha : Ev X W a σ G H (· = .int i)) (hb : Ev X W b σ G H (· = .int j)) : Ev X W (.BinOp a .Sub b pos) σ G H (· = .int (i - j)) := ev_bin op_sub ha hb (rr_I0 fun _ _ _ => .int _)
theorem ev_mul (ha : Ev X W a σ G H (· = .int i)) (hb : Ev X W b σ G H (· = .int j)) (hc : CMul i j) : Ev X W (.BinOp a .Mult b pos) σ G H (· = .int (i * j)) := ev_bin op_mul ha hb (rr_I hc fun _ _ _ => .int _)
theorem ev_mod (ha : Ev X W a σ G H (· = .int i)) (hb : Ev X W b σ G H (· = .int j)) (hc : 0 < j) : Ev X W (.BinOp a .Mod b pos) σ G H (· = .int (i % j)) := ev_bin op_mod ha hb (rr_I (C := fun _ j => 0 < j) hc fun _ _ _ => .int _)
theorem ev_div (ha : Ev X W a σ G H (· = .int i)) (hb : Ev X W b σ G H (· = .int j)) (hc : CDiv i j) : Ev X W (.BinOp a .FloorDiv b pos) σ G H (· = .int (i / j)) := ev_bin op_fdiv ha hb (rr_I hc fun _ _ _ => .int _)
theorem ev_pow (ha : Ev X W a σ G H (· = .int i)) (hb : Ev X W b σ G H (· = .int j)) (hc : CPow i j) : Ev X W (.BinOp a .Pow b pos) σ G H (· = .int (i ^ j.toNat)) := ev_bin op_pow ha hb (rr_I hc fun _ _ _ => .int _)
theorem rr_B {g : Int → Int → Bool} : RR X W (rI0 fun i j => .bl (g i j)) (· = .int i) (· = .int j) (fun d => ∃ k, d = .bl k ∧ k = g i j) := fun x y d1 d2 G1 H1 k p1 p2 r1 r2 Q q => by
  subst p1; subst p2
  exact ⟨i, j, r1.int_v, r2.int_v, q _ _ G1 H1 (Ch.refl k) ⟨_, rfl, rfl⟩ (.bl _)⟩
theorem et_lt (ha : Ev X W a σ G H (· = .int i)) (hb : Ev X W b σ G H (· = .int j)) : EvT X W (.Compare a [.Lt] [b] pos) σ G H (· = decide (i < j)) := et_cmp op_lt ha hb rr_B (nomark _)
theorem et_le (ha : Ev X W a σ G H (· = .int i)) (hb : Ev X W b σ G H (· = .int j)) : EvT X W (.Compare a [.LtE] [b] pos) σ G H (· = decide (i ≤ j)) := et_cmp op_le ha hb rr_B (nomark _)
theorem et_gt (ha : Ev X W a σ G H (· = .int i)) (hb : Ev X W b σ G H (· = .int j)) : EvT X W (.Compare a [.Gt] [b] pos) σ G H (· = decide (j < i)) := et_cmp op_gt ha hb rr_B (nomark _)
theorem et_ge (ha : Ev X W a σ G H (· = .int i)) (hb : Ev X W b σ G H (· = .int j)) : EvT X W (.Compare a [.GtE] [b] pos) σ G H (· = decide (j ≤ i)) := et_cmp op_ge ha hb rr_B (nomark _)
theorem ev_lt (ha : Ev X W a σ G H (· = .int i)) (hb : Ev X W b σ G H (· = .int j)) : Ev X W (.Compare a [.Lt] [b] pos) σ G H (· = .bl (decide (i < j))) := ev_cmp op_lt ha hb (rr_I0 fun _ _ _ => .bl _) (nomark _)
theorem ev_le (ha : Ev X W a σ G H (· = .int i)) (hb : Ev X W b σ G H (· = .int j)) : Ev X W (.Compare a [.LtE] [b] pos) σ G H (· = .bl (decide (i ≤ j))) := ev_cmp op_le ha hb (rr_I0 fun _ _ _ => .bl _) (nomark _)
theorem ev_gt (ha : Ev X W a σ G H (· = .int i)) (hb : Ev X W b σ G H (· = .int j)) : Ev X W (.Compare a [.Gt] [b] pos) σ G H (· = .bl (decide (j < i))) := ev_cmp op_gt ha hb (rr_I0 fun _ _ _ => .bl _) (nomark _)
theorem ev_ge (ha : Ev X W a σ G H (· = .int i)) (hb : Ev X W b σ G H (· = .int j)) : Ev X W (.Compare a [.GtE] [b] pos) σ G H (· = .bl (decide (j ≤ i))) := ev_cmp op_ge ha hb (rr_I0 fun _ _ _ => .bl _) (nomark _)
/-! == of flat things (numbers, texts, truths, None) -/
def flat : D → Option V
  | .non => some .non | .bl b => some (.bl b) | .int i => some (.int i) | .str x => some (.str x) | _ => none
theorem Rp.flat {K : PySem.W.Frag} {mg : Str → Option Value} {G : Hp} {v w : V} {d : D} (h : Rp K mg G v d) (e : GX.flat d = some w) : v = w := by
  cases h <;> simp [GX.flat] at e <;> first | exact e | contradiction
theorem rr_eq {d1 d2 : D} {x y : V} (h1 : flat d1 = some x) (h2 : flat d2 = some y) (hs : scal x y = true) : RR X W rEq (· = d1) (· = d2) (fun d => ∃ k, d = .bl k ∧ k = decide (x = y)) := fun v w e1 e2 G1 H1 k p1 p2 r1 r2 Q q => by
  subst p1; subst p2
  rw [r1.flat h1, r2.flat h2]
  exact ⟨hs, q _ _ G1 H1 (Ch.refl k) ⟨_, rfl, rfl⟩ (.bl _)⟩
theorem rr_ne {d1 d2 : D} {x y : V} (h1 : flat d1 = some x) (h2 : flat d2 = some y) (hs : scal x y = true) : RR X W rNe (· = d1) (· = d2) (fun d => ∃ k, d = .bl k ∧ k = !decide (x = y)) := fun v w e1 e2 G1 H1 k p1 p2 r1 r2 Q q => by
  subst p1; subst p2
  rw [r1.flat h1, r2.flat h2]
  exact ⟨hs, q _ _ G1 H1 (Ch.refl k) ⟨_, rfl, rfl⟩ (.bl _)⟩
theorem decV_int {i j : Int} : decide (V.int i = V.int j) = decide (i = j) := by simp
theorem decV_str {i j : Str} : decide (V.str i = V.str j) = decide (i = j) := by simp
theorem et_eqI (ha : Ev X W a σ G H (· = .int i)) (hb : Ev X W b σ G H (· = .int j)) : EvT X W (.Compare a [.Eq] [b] pos) σ G H (· = decide (i = j)) := (et_cmp op_eq ha hb (rr_eq rfl rfl rfl) (nomark _)).imp fun _ h => h.trans decV_int
theorem et_neI (ha : Ev X W a σ G H (· = .int i)) (hb : Ev X W b σ G H (· = .int j)) : EvT X W (.Compare a [.NotEq] [b] pos) σ G H (· = !decide (i = j)) := (et_cmp op_ne ha hb (rr_ne rfl rfl rfl) (nomark _)).imp fun _ h => h.trans (by rw [decV_int])
theorem et_eqS {x y : Str} (ha : Ev X W a σ G H (· = .str x)) (hb : Ev X W b σ G H (· = .str y)) : EvT X W (.Compare a [.Eq] [b] pos) σ G H (· = decide (x = y)) := (et_cmp op_eq ha hb (rr_eq rfl rfl rfl) (nomark _)).imp fun _ h => h.trans decV_str
theorem et_neS {x y : Str} (ha : Ev X W a σ G H (· = .str x)) (hb : Ev X W b σ G H (· = .str y)) : EvT X W (.Compare a [.NotEq] [b] pos) σ G H (· = !decide (x = y)) := (et_cmp op_ne ha hb (rr_ne rfl rfl rfl) (nomark _)).imp fun _ h => h.trans (by rw [decV_str])
/-! is None -/
def isNon : D → Bool | .non => true | _ => false
theorem Rp.isNon {K : PySem.W.Frag} {mg : Str → Option Value} {G : Hp} {v : V} {d : D} (h : Rp K mg G v d) : decide (v = .non) = GX.isNon d := by cases h <;> simp [GX.isNon]
theorem et_isN {d : D} {j pos'} (ha : Ev X W a σ G H (· = d)) : EvT X W (.Compare a [.Is] [.Constant .none j pos'] pos) σ G H (· = isNon d) :=
  et_cmp op_isN ha ev_non (fun v w e1 e2 G1 H1 k p1 p2 r1 r2 Q q => by
    subst p1; subst p2
    exact ⟨r2.non_v, by rw [r1.isNon]; exact q _ _ G1 H1 (Ch.refl k) ⟨_, rfl, rfl⟩ (.bl _)⟩) (nomark _)
theorem et_notN {d : D} {j pos'} (ha : Ev X W a σ G H (· = d)) : EvT X W (.Compare a [.IsNot] [.Constant .none j pos'] pos) σ G H (· = !isNon d) :=
  et_cmp op_notN ha ev_non (fun v w e1 e2 G1 H1 k p1 p2 r1 r2 Q q => by
    subst p1; subst p2
    exact ⟨r2.non_v, by rw [r1.isNon]; exact q _ _ G1 H1 (Ch.refl k) ⟨_, rfl, rfl⟩ (.bl _)⟩) (nomark _)

/-! truth of a value that is a bool; and, or, not -/
theorem et_val {PB : Bool → Prop} (ha : Ev X W a σ G H (fun d => ∃ k, d = .bl k ∧ PB k)) (he : ∀ whole, isTrue a X.env whole = (do let v ← whole; standAt a.pos; holding [v] (truthy v)) := by intro _; rfl) : EvT X W a σ G H PB := fun G1 H1 c Q q =>
  semT_of (pt_val pe_sem he) (ha G1 H1 c _ fun v d G2 H2 c2 ⟨k, e, p⟩ r => by subst e; exact ⟨k, r.bl_v, q k G2 H2 c2 p⟩)
theorem et_val1 {k : Bool} (ha : Ev X W a σ G H (· = .bl k)) (he : ∀ whole, isTrue a X.env whole = (do let v ← whole; standAt a.pos; holding [v] (truthy v)) := by intro _; rfl) : EvT X W a σ G H (· = k) :=
  et_val (ha.imp fun d e => ⟨k, e, rfl⟩) he
theorem et_not {k : Bool} (h : EvT X W a σ G H (· = k)) : EvT X W (.UnaryOp .Not a pos) σ G H (· = !k) := fun G1 H1 c Q q =>
  semT_of (pt_not pt_sem) (h G1 H1 c _ fun b G2 H2 c2 e => q _ G2 H2 c2 (by rw [e]))
theorem et_notP {PB : Bool → Prop} (h : EvT X W a σ G H (fun k => PB (!k))) : EvT X W (.UnaryOp .Not a pos) σ G H PB := fun G1 H1 c Q q =>
  semT_of (pt_not pt_sem) (h G1 H1 c _ fun b G2 H2 c2 e => q _ G2 H2 c2 e)
theorem EvW.t {PB : Bool → Prop} (h : EvW X W e σ G H PB) : EvT X W e σ G H PB := fun G1 H1 c Q q => semT_of (PW.pt pw_sem) (h G1 H1 c Q q)
theorem ew_and1 {PB : Bool → Prop} (h : EvT X W a σ G H PB) : EvW X W (.BoolOp .And [a] pos) σ G H PB := fun G1 H1 c Q q => semW_of (pw_and1 pt_sem) (h G1 H1 c Q q)
theorem ew_or1 {PB : Bool → Prop} (h : EvT X W a σ G H PB) : EvW X W (.BoolOp .Or [a] pos) σ G H PB := fun G1 H1 c Q q => semW_of (pw_or1 pt_sem) (h G1 H1 c Q q)
/-- the right one is looked at only where the left one leaves it open -/
theorem ew_and {k l : Bool} (h1 : EvT X W a σ G H (· = k)) (h2 : k = true → EvW X W (.BoolOp .And (b :: es) pos) σ G H (· = l)) : EvW X W (.BoolOp .And (a :: b :: es) pos) σ G H (· = (k && l)) := fun G1 H1 c Q q =>
  semW_of (pw_and pt_sem pw_sem) (h1 G1 H1 c _ fun b G2 H2 c2 e => by
    subst e
    cases b with
    | true => exact h2 rfl G2 H2 (c.trans c2) Q fun b G3 H3 c3 e => q b G3 H3 (c2.trans c3) (by rw [e]; rfl)
    | false => exact q false G2 H2 c2 rfl)
theorem ew_or {k l : Bool} (h1 : EvT X W a σ G H (· = k)) (h2 : k = false → EvW X W (.BoolOp .Or (b :: es) pos) σ G H (· = l)) : EvW X W (.BoolOp .Or (a :: b :: es) pos) σ G H (· = (k || l)) := fun G1 H1 c Q q =>
  semW_of (pw_or pt_sem pw_sem) (h1 G1 H1 c _ fun b G2 H2 c2 e => by
    subst e
    cases b with
    | false => exact h2 rfl G2 H2 (c.trans c2) Q fun b G3 H3 c3 e => q b G3 H3 (c2.trans c3) (by rw [e]; rfl)
    | true => exact q true G2 H2 c2 rfl)
theorem ev_one {op} (h : Ev X W a σ G H P) : Ev X W (.BoolOp op [a] pos) σ G H P := fun G1 H1 c Q q => semE_of (pe_one pe_sem) (h G1 H1 c Q q)
theorem ev_and {k l : Bool} (h1 : Ev X W a σ G H (· = .bl k)) (h2 : k = true → Ev X W (.BoolOp .And (b :: es) pos) σ G H (· = .bl l)) : Ev X W (.BoolOp .And (a :: b :: es) pos) σ G H (· = .bl (k && l)) := fun G1 H1 c Q q =>
  semE_of (pe_and pe_sem pe_sem) (h1 G1 H1 c _ fun v d G2 H2 c2 e r => by
    subst e
    refine ⟨k, r.bl_v, ?_⟩
    cases k with
    | true => exact h2 rfl G2 H2 (c.trans c2) Q fun v d G3 H3 c3 e r => q v d G3 H3 (c2.trans c3) (by rw [e]; rfl) r
    | false => exact q _ _ G2 H2 c2 rfl (.bl _))
theorem ev_or {k l : Bool} (h1 : Ev X W a σ G H (· = .bl k)) (h2 : k = false → Ev X W (.BoolOp .Or (b :: es) pos) σ G H (· = .bl l)) : Ev X W (.BoolOp .Or (a :: b :: es) pos) σ G H (· = .bl (k || l)) := fun G1 H1 c Q q =>
  semE_of (pe_or pe_sem pe_sem) (h1 G1 H1 c _ fun v d G2 H2 c2 e r => by
    subst e
    refine ⟨k, r.bl_v, ?_⟩
    cases k with
    | false => exact h2 rfl G2 H2 (c.trans c2) Q fun v d G3 H3 c3 e r => q v d G3 H3 (c2.trans c3) (by rw [e]; rfl) r
    | true => exact q _ _ G2 H2 c2 rfl (.bl _))
theorem ev_not {k : Bool} (h1 : Ev X W a σ G H (· = .bl k)) : Ev X W (.UnaryOp .Not a pos) σ G H (· = .bl (!k)) := fun G1 H1 c Q q =>
  semE_of (pe_not pe_sem) (h1 G1 H1 c _ fun v d G2 H2 c2 e r => by subst e; exact ⟨k, r.bl_v, q _ _ G2 H2 c2 rfl (.bl _)⟩)
/-- a if c else b -/
theorem ev_ifP {PB : Bool → Prop} (h : EvT X W c σ G H PB) (h1 : PB true → Ev X W a σ G H P) (h2 : PB false → Ev X W b σ G H P) : Ev X W (.IfExp c a b pos) σ G H P := fun G1 H1 c Q q =>
  semE_of (pe_ifExp pt_sem pe_sem pe_sem) (h G1 H1 c _ fun k G2 H2 c2 e => by
    cases k with
    | true => exact h1 e G2 H2 (c.trans c2) Q fun v d G3 H3 c3 p r => q v d G3 H3 (c2.trans c3) p r
    | false => exact h2 e G2 H2 (c.trans c2) Q fun v d G3 H3 c3 p r => q v d G3 H3 (c2.trans c3) p r)
theorem ev_if {k : Bool} {d e : D} (h : EvT X W c σ G H (· = k)) (h1 : k = true → Ev X W a σ G H (· = d)) (h2 : k = false → Ev X W b σ G H (· = e)) : Ev X W (.IfExp c a b pos) σ G H (· = if k = true then d else e) :=
  ev_ifP h (fun q => (h1 q.symm).imp fun z hz => by rw [hz, if_pos q.symm]) (fun q => (h2 q.symm).imp fun z hz => by rw [hz, ← q]; rfl)

/-! argument lists, displays -/
theorem ea_nil : EvA X W [] σ G H (· = []) := fun G1 H1 c Q q => semA_of pa_nil (q [] [] G1 H1 (Ch.refl c.ok) rfl .nil)
theorem ea_consP {PS : List D → Prop} (h : Ev X W e σ G H P) (hr : EvA X W es σ G H PS) (hs : starEach (e :: es) X.env = (false, eval e X.env) :: starEach es X.env := by rfl) : EvA X W (e :: es) σ G H (fun ds => ∃ d r, ds = d :: r ∧ P d ∧ PS r) := fun G1 H1 c Q q =>
  semA_of (pa_cons pe_sem pa_sem hs) (h G1 H1 c _ fun v d G2 H2 c2 p r => hr G2 H2 (c.trans c2) _ fun vs ds G3 H3 c3 ps rs => q (v :: vs) (d :: ds) G3 H3 (c2.trans c3) ⟨d, ds, rfl, p, ps⟩ (.cons (r.mono c3.gg) rs))
theorem ea_cons {d : D} {ds : List D} (h : Ev X W e σ G H (· = d)) (hr : EvA X W es σ G H (· = ds)) (hs : starEach (e :: es) X.env = (false, eval e X.env) :: starEach es X.env := by rfl) : EvA X W (e :: es) σ G H (· = d :: ds) :=
  (ea_consP h hr hs).imp fun z ⟨_, _, e, h1, h2⟩ => by rw [e, h1, h2]
theorem ev_tupP {PS : List D → Prop} {x1} (h : EvA X W es σ G H PS) (hl : es.length ≤ 10000 := by decide) (hz : ∀ ds, PS ds → ds.length ≤ 10000) : Ev X W (.Tuple es x1 pos) σ G H (fun d => ∃ ds, d = .tup ds ∧ PS ds) := fun G1 H1 c Q q =>
  semE_of (pe_tup pa_sem) (h G1 H1 c _ fun vs ds G2 H2 c2 p r => ⟨by rw [r.length, sizeLine_eq]; have := hz ds p; omega, fun a ha => by
    have cn : Ch W N0 G2 H2 (upd G2 a (.tup vs)) (upd H2 a (.tup vs)) := Ch.new c2.ok ha
    exact q _ (.tup ds) _ _ (c2.trans cn) ⟨ds, rfl, p⟩ (.tup (SqT.of upd_same) (r.mono cn.gg))⟩)
theorem ev_tup {ds : List D} {x1} (h : EvA X W es σ G H (· = ds)) (hl : ds.length ≤ 10000 := by simp) : Ev X W (.Tuple es x1 pos) σ G H (· = .tup ds) := fun G1 H1 c Q q =>
  semE_of (pe_tup pa_sem) (h G1 H1 c _ fun vs ds' G2 H2 c2 p r => by
    subst p
    exact ⟨by rw [r.length, sizeLine_eq]; omega, fun a ha => by
      have cn : Ch W N0 G2 H2 (upd G2 a (.tup vs)) (upd H2 a (.tup vs)) := Ch.new c2.ok ha
      exact q _ (.tup ds') _ _ (c2.trans cn) rfl (.tup (SqT.of upd_same) (r.mono cn.gg))⟩)
theorem en_lst {ds : List D} (h : EvA X W es σ G H (· = ds)) (hl : ds.length ≤ 10000 := by simp) : EvN X W (.List es pos) σ G H (· = ds) := fun G1 H1 c Q q =>
  semE_of (pe_lst pa_sem) (h G1 H1 c _ fun vs ds' G2 H2 c2 p r => by
    subst p
    exact ⟨by rw [r.length, sizeLine_eq]; omega, fun a ha => by
      have cn : Ch W N0 G2 H2 G2 (upd H2 a (.lst vs)) := Ch.own c2.ok ha
      refine q a vs ds' _ _ (c2.trans cn) ?_ (c2.ok.gnone ha) (c2.ok.nm ha) upd_same r rfl
      cases e : H1 a with
      | none => rfl
      | some o => exact absurd ha (c2.th a (by rw [e]; exact fun z => nomatch z))⟩)
end
end GX
set_option Elab.async false
set_option linter.all false
set_option maxRecDepth 100000
set_option maxHeartbeats 1000000
/-! GX2: calls of defs and built-ins, items, fields, slices, dicts. -/
namespace GX
open PySem L2

/-! ### a def by what it is worth -/
/-- F ds d: called with ds it is worth d -/
def SpD (K : PySem.W.Frag) (mg : Str → Option Value) (F : List D → D → Prop) : Sp := fun vs H Q _ => ∃ G ds d, Ok W0 G H ∧ RpA K mg G vs ds ∧ F ds d ∧ ∀ v G1 H1, Ch W0 N0 G H G1 H1 → Rp K mg G1 v d → Q v H1
/-- the def of the module's name x keeps such a promise -/
structure Cal (P : Program) (w : World) (K : PySem.W.Frag) (mg : Str → Option Value) (base : Heap) (CX : CXT) (x : Str) (k : Nat) (ps : List Str) (sp : Sp) : Prop where
  ex : ∃ (f : Addr) (fd : FuncData), FnOk P w K mg base CX k f fd ps sp ∧ mg x = some (.ref f) ∧ PySem.W.keepIn K (.ref f) = true ∧ Binds K fd ps []
abbrev CalD (P : Program) (w : World) (K : PySem.W.Frag) (mg : Str → Option Value) (base : Heap) (x : Str) (k : Nat) (ps : List Str) (F : List D → D → Prop) : Prop := Cal P w K mg base CX0 x k ps (SpD K mg F)

section
variable {X : Cx} {W : Wd} {e a b c : Expr} {es : List Expr} {σ : St} {G H G1 H1 : Hp} {P P1 P2 : D → Prop} {pos p : Pos}
/-- what a pure def leaves, seen from any world -/
theorem Ch.up (k : Ok W G H) (c : Ch W0 N0 G H G1 H1) : Ch W N0 G H G1 H1 :=
  ⟨fun a o _ _ h => c.hh a o (fun z => z) (fun z => z) h, c.gg, c.fr, c.th, c.ok.gh, W.st H H1 (fun a m => by
    cases q : H a with
    | none => exact absurd q (W.tr H k.j a m)
    | some o => exact c.hh a o (fun z => z) (fun z => z) q) k.j, fun a m => c.fr a (W.tr H k.j a m) (k.gm a m)⟩
theorem Ok.down (k : Ok W G H) : Ok W0 G H := ⟨k.gh, trivial, fun _ h => h.elim⟩
theorem ev_call {x : Str} {k : Nat} {ps : List Str} {F : List D → D → Prop} {ds : List D} {d : D} (C : CalD X.prog X.w X.K X.mg X.base x k ps F) (hr : Room k X.A) (ha : EvA X W (e :: es) σ G H (· = ds)) (hF : F ds d) (hg : Gl X x := by rfl)
    (hdb : (x == ("__debug__" : Str)) = false := by decide) (he : starEach (e :: es) X.env = (false, eval e X.env) :: starEach es X.env := by rfl) (hpl : (backTo pos (starEach es X.env)).any (·.1) = false := by rfl) :
    Ev X W (.Call (.Name x p) (e :: es) [] pos) σ G H (· = d) := fun G1 H1 c Q q => by
  obtain ⟨f, fd, Fn, hm, hk, hb⟩ := C.ex
  refine semE_of (pe_call Fn hr hg hm hk hb .nil pass0 pa_sem hdb he hpl) (ha G1 H1 c _ fun vs ds' G2 H2 c2 e r => ?_)
  subst e
  show SpD X.K X.mg F (vs ++ []) H2 Q _
  rw [List.append_nil]
  exact ⟨G2, ds', d, c2.ok.down, r, hF, fun v G3 H3 c3 r3 => q v d G3 H3 (c2.trans (Ch.up c2.ok c3)) rfl r3⟩
theorem ev_call0 {x : Str} {k : Nat} {ps : List Str} {F : List D → D → Prop} {d : D} (C : CalD X.prog X.w X.K X.mg X.base x k ps F) (hr : Room k X.A) (hF : F [] d) (hg : Gl X x := by rfl)
    (hdb : (x == ("__debug__" : Str)) = false := by decide) : Ev X W (.Call (.Name x p) [] [] pos) σ G H (· = d) := fun G1 H1 c Q q => by
  obtain ⟨f, fd, Fn, hm, hk, hb⟩ := C.ex
  refine semE_of (pe_call0 Fn hr hg hm hk hb .nil pass0 hdb) ?_
  exact ⟨G1, [], d, c.ok.down, .nil, hF, fun v G3 H3 c3 r3 => q v d G3 H3 (Ch.up c.ok c3) rfl r3⟩

/-! ### built-ins -/
/-- what r asks of arguments, told of data -/
def RCa (X : Cx) (W : Wd) (r : List V → Hp → VK → Prop) (ds : List D) (P : D → Prop) : Prop := ∀ vs G1 H1, Ok W G1 H1 → RpA X.K X.mg G1 vs ds → ∀ Q : VK, (∀ v d G2 H2, Ch W N0 G1 H1 G2 H2 → P d → Rp X.K X.mg G2 v d → Q v H2) → r vs H1 Q
theorem ev_blt {id : String} {x : Str} {r : List V → Hp → VK → Prop} {ds : List D} (hc : CallR X (.builtin id) r) (hm : X.mg x = none) (ha : EvA X W (e :: es) σ G H (· = ds)) (hr : RCa X W r ds P) (hv : bootBuiltins x = some (.builtin id) := by decide +kernel) (hg : Gl X x := by rfl) (hn : x ≠ "__name__" := by decide) (hdb : (x == ("__debug__" : Str)) = false := by decide)
    (he : starEach (e :: es) X.env = (false, eval e X.env) :: starEach es X.env := by rfl) (hpl : (backTo pos (starEach es X.env)).any (·.1) = false := by rfl) : Ev X W (.Call (.Name x p) (e :: es) [] pos) σ G H P := fun G1 H1 c Q q =>
  semE_of (pe_callB hc hg hm hv pa_sem hn hdb he hpl) (ha G1 H1 c _ fun vs ds' G2 H2 c2 e r2 => by
    subst e
    exact hr vs G2 H2 c2.ok r2 Q fun v d G3 H3 c3 p r => q v d G3 H3 (c2.trans c3) p r)
theorem ev_ty {id : String} {x : Str} {r : List V → Hp → VK → Prop} {ds : List D} (hc : CallR X (.type id) r) (hm : X.mg x = none) (ha : EvA X W (e :: es) σ G H (· = ds)) (hr : RCa X W r ds P) (hv : bootBuiltins x = some (.type id) := by decide +kernel) (hg : Gl X x := by rfl) (hn : x ≠ "__name__" := by decide) (hdb : (x == ("__debug__" : Str)) = false := by decide)
    (he : starEach (e :: es) X.env = (false, eval e X.env) :: starEach es X.env := by rfl) (hpl : (backTo pos (starEach es X.env)).any (·.1) = false := by rfl) : Ev X W (.Call (.Name x p) (e :: es) [] pos) σ G H P := fun G1 H1 c Q q =>
  semE_of (pe_callTy hc hg hm hv pa_sem hn hdb he hpl) (ha G1 H1 c _ fun vs ds' G2 H2 c2 e r2 => by
    subst e
    exact hr vs G2 H2 c2.ok r2 Q fun v d G3 H3 c3 p r => q v d G3 H3 (c2.trans c3) p r)
theorem Rp.lst_v {K : PySem.W.Frag} {mg : Str → Option Value} {G : Hp} {v : V} {ds : List D} (h : Rp K mg G v (.lst ds)) : ∃ p vs, v = .ref p ∧ SqL K G p vs ∧ RpA K mg G vs ds := by
  cases h with
  | lst h r => exact ⟨_, _, rfl, h, r⟩
theorem Rp.tup_v {K : PySem.W.Frag} {mg : Str → Option Value} {G : Hp} {v : V} {ds : List D} (h : Rp K mg G v (.tup ds)) : ∃ p vs, v = .ref p ∧ SqT K G p vs ∧ RpA K mg G vs ds := by
  cases h with
  | tup h r => exact ⟨_, _, rfl, h, r⟩
theorem Rp.dic_v {K : PySem.W.Frag} {mg : Str → Option Value} {G : Hp} {v : V} {ds : List (Key × D)} (h : Rp K mg G v (.dic ds)) : ∃ p vs, v = .ref p ∧ G p = some (.dK vs) ∧ RpK K mg G vs ds := by
  cases h with
  | dic h r => exact ⟨_, _, rfl, h, r⟩
theorem RpA.one {K : PySem.W.Frag} {mg : Str → Option Value} {G : Hp} {vs : List V} {d : D} (h : RpA K mg G vs [d]) : ∃ v, vs = [v] ∧ Rp K mg G v d := by
  cases h with
  | cons r s => cases s; exact ⟨_, rfl, r⟩
theorem RpA.two {K : PySem.W.Frag} {mg : Str → Option Value} {G : Hp} {vs : List V} {d e : D} (h : RpA K mg G vs [d, e]) : ∃ v w, vs = [v, w] ∧ Rp K mg G v d ∧ Rp K mg G w e := by
  cases h with
  | cons r s =>
    obtain ⟨w, rfl, q⟩ := s.one
    exact ⟨_, w, rfl, r, q⟩
theorem RpA.three {K : PySem.W.Frag} {mg : Str → Option Value} {G : Hp} {vs : List V} {d e f : D} (h : RpA K mg G vs [d, e, f]) : ∃ v w x, vs = [v, w, x] ∧ Rp K mg G v d ∧ Rp K mg G w e ∧ Rp K mg G x f := by
  cases h with
  | cons r s =>
    obtain ⟨w, x, rfl, q⟩ := s.two
    exact ⟨_, w, x, rfl, r, q⟩
/-- len of a list or tuple -/
def seq? : D → Option (List D) | .lst l => some l | .tup l => some l | _ => none
theorem Rp.seq {K : PySem.W.Frag} {mg : Str → Option Value} {G : Hp} {v : V} {d : D} {ds : List D} (h : Rp K mg G v d) (e : seq? d = some ds) : ∃ p vs, v = .ref p ∧ (SqL K G p vs ∨ SqT K G p vs) ∧ RpA K mg G vs ds := by
  cases h <;> simp [seq?] at e
  · subst e; exact ⟨_, _, rfl, .inl (by assumption), by assumption⟩
  · subst e; exact ⟨_, _, rfl, .inr (by assumption), by assumption⟩
theorem Ext.s {K : PySem.W.Frag} {G H : Hp} {p : Addr} {vs : List V} (e : Ext G H) (h : SqL K G p vs ∨ SqT K G p vs) : SqL K H p vs ∨ SqT K H p vs := h.elim (fun z => .inl (e.l z)) fun z => .inr (e.t z)
theorem ev_len {d : D} {ds : List D} (hm : X.mg "len" = none) (ha : Ev X W a σ G H (· = d)) (hd : seq? d = some ds := by rfl) (hg : Gl X "len" := by rfl) (he : starEach [a] X.env = (false, eval a X.env) :: starEach [] X.env := by rfl) : Ev X W (.Call (.Name "len" p) [a] [] pos) σ G H (· = .int ds.length) :=
  ev_blt call_len_seq hm (ea_cons ha ea_nil he) (fun vs G1 H1 k r0 Q q => by
    obtain ⟨v, rfl, r⟩ := r0.one
    obtain ⟨p, vs, rfl, h, rs⟩ := r.seq hd
    refine ⟨p, vs, rfl, k.gh.s h, ?_⟩
    rw [rs.length]
    exact q _ _ G1 H1 (Ch.refl k) rfl (.int _)) PySem.boot_len hg (by decide) (by decide) he rfl
theorem ev_lenS {x : Str} (hm : X.mg "len" = none) (ha : Ev X W a σ G H (· = .str x)) (hx : x.length ≤ sizeLine) (hg : Gl X "len" := by rfl) (he : starEach [a] X.env = (false, eval a X.env) :: starEach [] X.env := by rfl) : Ev X W (.Call (.Name "len" p) [a] [] pos) σ G H (· = .int x.length) :=
  ev_blt call_len_str hm (ea_cons ha ea_nil he) (fun vs G1 H1 k r0 Q q => by
    obtain ⟨v, rfl, r⟩ := r0.one
    exact ⟨x, by rw [r.str_v], hx, q _ _ G1 H1 (Ch.refl k) rfl (.int _)⟩) PySem.boot_len hg (by decide) (by decide) he rfl
theorem ev_abs {i : Int} (hm : X.mg "abs" = none) (ha : Ev X W a σ G H (· = .int i)) (hg : Gl X "abs" := by rfl) (he : starEach [a] X.env = (false, eval a X.env) :: starEach [] X.env := by rfl) : Ev X W (.Call (.Name "abs" p) [a] [] pos) σ G H (· = .int (if i < 0 then -i else i)) :=
  ev_blt call_abs hm (ea_cons ha ea_nil he) (fun vs G1 H1 k r0 Q q => by
    obtain ⟨v, rfl, r⟩ := r0.one
    exact ⟨i, by rw [r.int_v], q _ _ G1 H1 (Ch.refl k) rfl (.int _)⟩) (by decide +kernel) hg (by decide) (by decide) he rfl
theorem ev_intI {i : Int} (hm : X.mg "int" = none) (ha : Ev X W a σ G H (· = .int i)) (hg : Gl X "int" := by rfl) (he : starEach [a] X.env = (false, eval a X.env) :: starEach [] X.env := by rfl) : Ev X W (.Call (.Name "int" p) [a] [] pos) σ G H (· = .int i) :=
  ev_ty call_int1 hm (ea_cons ha ea_nil he) (fun vs G1 H1 k r0 Q q => by
    obtain ⟨v, rfl, r⟩ := r0.one
    exact .inl ⟨i, by rw [r.int_v], q _ _ G1 H1 (Ch.refl k) rfl (.int _)⟩) (by decide +kernel) hg (by decide) (by decide) he rfl
theorem ev_intB {b : Bool} (hm : X.mg "int" = none) (ha : Ev X W a σ G H (· = .bl b)) (hg : Gl X "int" := by rfl) (he : starEach [a] X.env = (false, eval a X.env) :: starEach [] X.env := by rfl) : Ev X W (.Call (.Name "int" p) [a] [] pos) σ G H (· = .int (if b then 1 else 0)) :=
  ev_ty call_int1 hm (ea_cons ha ea_nil he) (fun vs G1 H1 k r0 Q q => by
    obtain ⟨v, rfl, r⟩ := r0.one
    exact .inr ⟨b, by rw [r.bl_v], q _ _ G1 H1 (Ch.refl k) rfl (.int _)⟩) (by decide +kernel) hg (by decide) (by decide) he rfl
theorem ev_min2 {i j : Int} (hm : X.mg "min" = none) (hcalm : X.calm = true) (ha : Ev X W a σ G H (· = .int i)) (hb : Ev X W b σ G H (· = .int j)) (hg : Gl X "min" := by rfl) (he : starEach [a, b] X.env = (false, eval a X.env) :: starEach [b] X.env := by rfl) (he2 : starEach [b] X.env = (false, eval b X.env) :: starEach [] X.env := by rfl)
    (hpl : (backTo pos (starEach [b] X.env)).any (·.1) = false := by rfl) : Ev X W (.Call (.Name "min" p) [a, b] [] pos) σ G H (· = .int (if j < i then j else i)) :=
  ev_blt (call_min2 hcalm) hm (ea_cons ha (ea_cons hb ea_nil he2) he) (fun vs G1 H1 k r0 Q q => by
    obtain ⟨v, w, rfl, r1, r2⟩ := r0.two
    exact ⟨i, j, by rw [r1.int_v, r2.int_v], q _ _ G1 H1 (Ch.refl k) rfl (.int _)⟩) (by decide +kernel) hg (by decide) (by decide) he hpl
theorem ev_max2 {i j : Int} (hm : X.mg "max" = none) (hcalm : X.calm = true) (ha : Ev X W a σ G H (· = .int i)) (hb : Ev X W b σ G H (· = .int j)) (hg : Gl X "max" := by rfl) (he : starEach [a, b] X.env = (false, eval a X.env) :: starEach [b] X.env := by rfl) (he2 : starEach [b] X.env = (false, eval b X.env) :: starEach [] X.env := by rfl)
    (hpl : (backTo pos (starEach [b] X.env)).any (·.1) = false := by rfl) : Ev X W (.Call (.Name "max" p) [a, b] [] pos) σ G H (· = .int (if j > i then j else i)) :=
  ev_blt (call_max2 hcalm) hm (ea_cons ha (ea_cons hb ea_nil he2) he) (fun vs G1 H1 k r0 Q q => by
    obtain ⟨v, w, rfl, r1, r2⟩ := r0.two
    exact ⟨i, j, by rw [r1.int_v, r2.int_v], q _ _ G1 H1 (Ch.refl k) rfl (.int _)⟩) (by decide +kernel) hg (by decide) (by decide) he hpl
theorem ev_sum {ns : List Int} (hm : X.mg "sum" = none) (hcalm : X.calm = true) (ha : Ev X W a σ G H (· = .lst (ns.map .int))) (hg : Gl X "sum" := by rfl) (he : starEach [a] X.env = (false, eval a X.env) :: starEach [] X.env := by rfl) : Ev X W (.Call (.Name "sum" p) [a] [] pos) σ G H (· = .int ns.sum) :=
  ev_blt (cr_sum hcalm) hm (ea_cons ha ea_nil he) (fun vs G1 H1 k r0 Q q => by
    obtain ⟨v, rfl, r⟩ := r0.one
    obtain ⟨p, vs, rfl, h, rs⟩ := r.lst_v
    rw [rs.ints_v] at h
    exact ⟨p, ns, rfl, k.gh.l h, q _ _ G1 H1 (Ch.refl k) rfl (.int _)⟩) (by decide +kernel) hg (by decide) (by decide) he rfl
theorem ev_all {bs : List Bool} (hm : X.mg "all" = none) (hcalm : X.calm = true) (ha : Ev X W a σ G H (· = .lst (bs.map .bl))) (hg : Gl X "all" := by rfl) (he : starEach [a] X.env = (false, eval a X.env) :: starEach [] X.env := by rfl) : Ev X W (.Call (.Name "all" p) [a] [] pos) σ G H (· = .bl (bs.all id)) :=
  ev_blt (cr_all hcalm) hm (ea_cons ha ea_nil he) (fun vs G1 H1 k r0 Q q => by
    obtain ⟨v, rfl, r⟩ := r0.one
    obtain ⟨p, vs, rfl, h, rs⟩ := r.lst_v
    rw [rs.bls_v] at h
    exact ⟨p, bs, rfl, k.gh.l h, q _ _ G1 H1 (Ch.refl k) rfl (.bl _)⟩) (by decide +kernel) hg (by decide) (by decide) he rfl
theorem ev_any {bs : List Bool} (hm : X.mg "any" = none) (hcalm : X.calm = true) (ha : Ev X W a σ G H (· = .lst (bs.map .bl))) (hg : Gl X "any" := by rfl) (he : starEach [a] X.env = (false, eval a X.env) :: starEach [] X.env := by rfl) : Ev X W (.Call (.Name "any" p) [a] [] pos) σ G H (· = .bl (bs.any id)) :=
  ev_blt (cr_any hcalm) hm (ea_cons ha ea_nil he) (fun vs G1 H1 k r0 Q q => by
    obtain ⟨v, rfl, r⟩ := r0.one
    obtain ⟨p, vs, rfl, h, rs⟩ := r.lst_v
    rw [rs.bls_v] at h
    exact ⟨p, bs, rfl, k.gh.l h, q _ _ G1 H1 (Ch.refl k) rfl (.bl _)⟩) (by decide +kernel) hg (by decide) (by decide) he rfl
/-- tuple(list), tuple(tuple) -/
theorem ev_tuple {d : D} {ds : List D} (hm : X.mg "tuple" = none) (ha : Ev X W a σ G H (· = d)) (hd : seq? d = some ds := by rfl) (hg : Gl X "tuple" := by rfl) (he : starEach [a] X.env = (false, eval a X.env) :: starEach [] X.env := by rfl) : Ev X W (.Call (.Name "tuple" p) [a] [] pos) σ G H (· = .tup ds) :=
  ev_ty call_tuple_of hm (ea_cons ha ea_nil he) (fun vs G1 H1 k r0 Q q => by
    obtain ⟨v, rfl, r⟩ := r0.one
    obtain ⟨p, vs, rfl, h, rs⟩ := r.seq hd
    refine ⟨p, vs, rfl, ?_⟩
    rcases h with h | h
    · refine .inl ⟨k.gh.l h, fun l hl => ?_⟩
      have cn : Ch W N0 G1 H1 (upd G1 l (.tup vs)) (upd H1 l (.tup vs)) := Ch.new k hl
      exact q _ _ _ _ cn rfl (.tup (SqT.of upd_same) (rs.mono cn.gg))
    · exact .inr ⟨k.gh.t h, q _ _ G1 H1 (Ch.refl k) rfl (.tup h rs)⟩) (by decide +kernel) hg (by decide) (by decide) he rfl
/-- .. of a list with some property -/
theorem ev_tupleP {PL : List D → Prop} (hm : X.mg "tuple" = none) (ha : EvN X W a σ G H PL) (hg : Gl X "tuple" := by rfl) (he : starEach [a] X.env = (false, eval a X.env) :: starEach [] X.env := by rfl) : Ev X W (.Call (.Name "tuple" p) [a] [] pos) σ G H (fun d => ∃ ds, d = .tup ds ∧ PL ds) := fun G1 H1 c Q q =>
  semE_of (pe_callTy call_tuple_of hg hm (by decide +kernel) (pa_cons pe_sem pa_nil he) (by decide) (by decide) he rfl) (ha G1 H1 c _ fun p vs ds G2 H2 c2 h1 h2 h3 h4 h5 h6 => by
    refine ⟨p, vs, rfl, .inl ⟨SqL.of h4, fun l hl => ?_⟩⟩
    have cn : Ch W N0 G2 H2 (upd G2 l (.tup vs)) (upd H2 l (.tup vs)) := Ch.new c2.ok hl
    exact q _ _ _ _ (c2.trans cn) ⟨ds, rfl, h6⟩ (.tup (SqT.of upd_same) (h5.mono cn.gg)))
/-- list(..): a new list -/
theorem en_list {d : D} {ds : List D} (hm : X.mg "list" = none) (ha : Ev X W a σ G H (· = d)) (hd : seq? d = some ds := by rfl) (hg : Gl X "list" := by rfl) (he : starEach [a] X.env = (false, eval a X.env) :: starEach [] X.env := by rfl) : EvN X W (.Call (.Name "list" p) [a] [] pos) σ G H (· = ds) := fun G1 H1 c Q q =>
  semE_of (pe_callTy call_list_of hg hm (by decide +kernel) (pa_cons pe_sem pa_nil he) (by decide) (by decide) he rfl) (ha G1 H1 c _ fun v d' G2 H2 c2 e r => by
    subst e
    obtain ⟨p, vs, rfl, h, rs⟩ := r.seq hd
    refine ⟨p, vs, rfl, c2.ok.gh.s h, fun l hl => ?_⟩
    refine q l vs ds G2 _ (c2.trans (Ch.own c2.ok hl)) ?_ (c2.ok.gnone hl) (c2.ok.nm hl) upd_same rs rfl
    cases e : H1 l with
    | none => rfl
    | some o => exact absurd hl (c2.th l (by rw [e]; exact fun z => nomatch z)))

/-! ### items -/
theorem rr_ixL {ds : List D} {i : Int} {d : D} (h : atI ds i = some d) : RR X W (rIxL X.K) (· = .lst ds) (· = .int i) (· = d) := fun x y d1 d2 G1 H1 k p1 p2 r1 r2 Q q => by
  subst p1; subst p2
  obtain ⟨p, vs, rfl, hl, rs⟩ := r1.lst_v
  obtain ⟨j, hj, hd⟩ := Option.bind_eq_some_iff.mp h
  obtain ⟨v, hv, rv⟩ := rs.get hd
  exact ⟨p, vs, i, v, rfl, r2.int_v, k.gh.l hl, by unfold atI; rw [rs.length, hj]; exact hv, q v d G1 H1 (Ch.refl k) rfl rv⟩
theorem rr_ixT {ds : List D} {i : Int} {d : D} (h : atI ds i = some d) : RR X W (rIxT X.K) (· = .tup ds) (· = .int i) (· = d) := fun x y d1 d2 G1 H1 k p1 p2 r1 r2 Q q => by
  subst p1; subst p2
  obtain ⟨p, vs, rfl, hl, rs⟩ := r1.tup_v
  obtain ⟨j, hj, hd⟩ := Option.bind_eq_some_iff.mp h
  obtain ⟨v, hv, rv⟩ := rs.get hd
  exact ⟨p, vs, i, v, rfl, r2.int_v, k.gh.t hl, by unfold atI; rw [rs.length, hj]; exact hv, q v d G1 H1 (Ch.refl k) rfl rv⟩
theorem ev_ixL {ds : List D} {i : Int} {d : D} (ha : Ev X W a σ G H (· = .lst ds)) (hb : Ev X W b σ G H (· = .int i)) (h : atI ds i = some d) (hs : PlainIx b := by exact fun _ _ => rfl) : Ev X W (.Subscript a b pos) σ G H (· = d) :=
  ev_tOp (fun _ _ p q => pe_ix ix_list p q hs) ha hb (rr_ixL h)
theorem ev_ixT {ds : List D} {i : Int} {d : D} (ha : Ev X W a σ G H (· = .tup ds)) (hb : Ev X W b σ G H (· = .int i)) (h : atI ds i = some d := by rfl) (hs : PlainIx b := by exact fun _ _ => rfl) : Ev X W (.Subscript a b pos) σ G H (· = d) :=
  ev_tOp (fun _ _ p q => pe_ix ix_tup p q hs) ha hb (rr_ixT h)
/-- at an open place in bounds, by a natural number -/
theorem atI_i {α : Type} {xs : List α} {i : Int} {v : α} (h0 : 0 ≤ i) (h : xs[i.toNat]? = some v) : atI xs i = some v := by
  have e : (i.toNat : Int) = i := Int.toNat_of_nonneg h0
  have q := atI_nat (xs := xs) (j := i.toNat) h
  rw [e] at q; exact q

/-! ### fields -/
theorem RpF.look {K : PySem.W.Frag} {mg : Str → Option Value} {G : Hp} {f : Str} {d : D} : ∀ {vs : List (Str × V)} {ds : List (Str × D)}, RpF K mg G vs ds → ds.lookup f = some d → ∃ v, vs.lookup f = some v ∧ Rp K mg G v d
  | _, _, .nil, e => by simp at e
  | _, _, .cons (k := k) r s, e => by
    rw [List.lookup_cons] at e ⊢
    cases q : (f == k) with
    | true => rw [q] at e; simp at e; subst e; exact ⟨_, by simp, r⟩
    | false => rw [q] at e; simp at e; obtain ⟨v, h1, h2⟩ := s.look e; exact ⟨v, by simpa using h1, h2⟩
theorem ev_fld {cn f : Str} {C : Addr} {fs : List (Str × D)} {d : D} (ha : Ev X W a σ G H (· = .ins cn fs)) (hC : X.mg cn = some (.ref C)) (hc : Cls X.K C) (hn : NoAttr X.K C f) (hl : fs.lookup f = some d) (hb : attributeBase a f X.env (eval a X.env) = eval a X.env := by rfl) : Ev X W (.Attribute a f pos) σ G H (· = d) := fun G1 H1 c Q q =>
  semE_of (pe_fld pe_sem hb) (ha G1 H1 c _ fun v d' G2 H2 c2 e r => by
    subst e
    cases r with
    | ins h1 h2 h3 h4 =>
      rw [hC] at h1
      cases h1
      obtain ⟨v, l1, rv⟩ := h4.look hl
      exact ⟨_, _, _, _, v, rfl, c2.ok.gh _ _ h2, hc, hn, l1, q v d G2 H2 c2 rfl rv⟩)

/-! ### dicts that are read -/
def dGet (l : List (Key × D)) (k : Key) : Option D := (l.find? fun q => decide (q.1 = k)).map (·.2)
def dPut (l : List (Key × D)) (k : Key) (v : D) : List (Key × D) := if l.any fun q => decide (q.1 = k) then l.map fun q => if q.1 = k then (q.1, v) else q else l ++ [(k, v)]
theorem RpK.val {K : PySem.W.Frag} {mg : Str → Option Value} {G : Hp} {k : Key} : ∀ {vs : List (Key × V)} {ds : List (Key × D)}, RpK K mg G vs ds → (∀ d, dGet ds k = some d → ∃ v, valV vs k = some v ∧ Rp K mg G v d) ∧ (dGet ds k = none → valV vs k = none)
  | _, _, .nil => ⟨fun d h => by simp [dGet] at h, fun _ => rfl⟩
  | _, _, .cons (k := j) r s => by
    by_cases e : j = k
    · subst e
      refine ⟨fun d h => ?_, fun h => ?_⟩
      · simp [dGet] at h
        subst h
        exact ⟨_, valV_pos rfl, r⟩
      · simp [dGet] at h
    · have q := s.val (k := k)
      have g : ∀ (d : D) (ds : List (Key × D)), dGet ((j, d) :: ds) k = dGet ds k := fun d ds => by simp [dGet, e]
      refine ⟨fun d h => ?_, fun h => ?_⟩
      · rw [g] at h
        obtain ⟨v, h1, h2⟩ := q.1 d h
        exact ⟨v, by rw [valV_neg (by exact e)]; exact h1, h2⟩
      · rw [g] at h
        rw [valV_neg (by exact e)]
        exact q.2 h
def keyD : Key → D | .inl i => .int i | .inr x => .str x
theorem Rp.key {K : PySem.W.Frag} {mg : Str → Option Value} {G : Hp} {v : V} {k : Key} (h : Rp K mg G v (keyD k)) : v = kV k := by
  cases k with
  | inl i => exact h.int_v
  | inr x => exact h.str_v
theorem ev_dget {ds : List (Key × D)} {k : Key} {d : D} (hu : X.A.units + 1 < cLine) (ha : Ev X W a σ G H (· = .dic ds)) (hb : Ev X W b σ G H (· = keyD k)) (h : dGet ds k = some d) (hs : NoSl b := by exact fun _ _ => rfl) : Ev X W (.Subscript a b pos) σ G H (· = d) := fun G1 H1 c Q q =>
  semE_of (pe_dget hu pe_sem pe_sem hs) (ha G1 H1 c _ fun x d1 G2 H2 c2 p1 r1 => hb G2 H2 (c.trans c2) _ fun y d2 G3 H3 c3 p2 r2 => by
    subst p1; subst p2
    obtain ⟨p, kvs, rfl, hp, rs⟩ := (r1.mono c3.gg).dic_v
    obtain ⟨v, hv, rv⟩ := rs.val.1 d h
    refine ⟨p, v, rfl, ?_, q v d G3 H3 (c2.trans c3) rfl rv⟩
    rw [r2.key, ← hv]
    exact DGet.k (c3.ok.gh _ _ hp))
/-- a text's key -/
theorem ev_dgetS {ds : List (Key × D)} {x : Str} {d : D} (hu : X.A.units + 1 < cLine) (ha : Ev X W a σ G H (· = .dic ds)) (hb : Ev X W b σ G H (· = .str x)) (h : dGet ds (.inr x) = some d) (hs : NoSl b := by exact fun _ _ => rfl) : Ev X W (.Subscript a b pos) σ G H (· = d) := ev_dget (k := .inr x) hu ha hb h hs
theorem ev_dgetI {ds : List (Key × D)} {x : Int} {d : D} (hu : X.A.units + 1 < cLine) (ha : Ev X W a σ G H (· = .dic ds)) (hb : Ev X W b σ G H (· = .int x)) (h : dGet ds (.inl x) = some d) (hs : NoSl b := by exact fun _ _ => rfl) : Ev X W (.Subscript a b pos) σ G H (· = d) := ev_dget (k := .inl x) hu ha hb h hs

/-! ### in, of flat things -/
def flats : List D → Option (List V)
  | [] => some []
  | d :: r => match flat d, flats r with | some v, some vs => some (v :: vs) | _, _ => none
theorem RpA.flats {K : PySem.W.Frag} {mg : Str → Option Value} {G : Hp} : ∀ {vs : List V} {ds : List D} {ws : List V}, RpA K mg G vs ds → GX.flats ds = some ws → vs = ws
  | _, _, _, .nil, e => by cases e; rfl
  | _, _, _, .cons (d := d) (ds := ds) r s, e => by
    unfold GX.flats at e
    cases h1 : flat d with
    | none => rw [h1] at e; cases e
    | some v =>
      cases h2 : GX.flats ds with
      | none => rw [h1, h2] at e; cases e
      | some us => rw [h1, h2] at e; cases e; rw [r.flat h1, s.flats h2]
theorem flats_strs : ∀ xs : List Str, flats (xs.map .str) = some (xs.map V.str)
  | [] => rfl
  | x :: xs => by rw [List.map_cons, flats, flats_strs xs]; rfl
theorem flats_ints : ∀ xs : List Int, flats (xs.map .int) = some (xs.map V.int)
  | [] => rfl
  | x :: xs => by rw [List.map_cons, flats, flats_ints xs]; rfl
theorem flatV_flats : ∀ {ds : List D} {ws : List V}, flats ds = some ws → ws.all flatV = true
  | [], _, e => by cases e; rfl
  | d :: ds, ws, e => by
    unfold flats at e
    cases h1 : flat d with
    | none => rw [h1] at e; cases e
    | some v =>
      cases h2 : flats ds with
      | none => rw [h1, h2] at e; cases e
      | some us =>
        rw [h1, h2] at e; cases e
        rw [List.all_cons, flatV_flats h2]
        cases d <;> simp [flat] at h1 <;> subst h1 <;> rfl
theorem flatV_flat {d : D} {v : V} (h : flat d = some v) : flatV v = true := by
  cases d <;> simp [flat] at h <;> subst h <;> rfl
theorem rr_in {neg : Bool} {d e : D} {ds : List D} {v : V} {ws : List V} (h1 : flat d = some v) (hd : seq? e = some ds) (h2 : flats ds = some ws) : RR X W (rIn X.K neg) (· = d) (· = e) (· = .bl (if neg then !inV v ws else inV v ws)) := fun x y d1 d2 G1 H1 k p1 p2 r1 r2 Q q => by
  subst p1; subst p2
  obtain ⟨p, vs, rfl, hs, rs⟩ := r2.seq hd
  rw [r1.flat h1]
  rw [rs.flats h2] at hs
  exact ⟨p, ws, rfl, k.gh.s hs, flatV_flat h1, flatV_flats h2, q _ _ G1 H1 (Ch.refl k) rfl (.bl _)⟩
theorem inV_strs (x : Str) (xs : List Str) : inV (.str x) (xs.map V.str) = decide (x ∈ xs) := by
  induction xs with
  | nil => rfl
  | cons y ys ih =>
    have e : inV (.str x) ((y :: ys).map V.str) = (eqV (.str y) (.str x) || inV (.str x) (ys.map V.str)) := rfl
    rw [e, ih]
    by_cases h : y = x
    · subst h; simp [eqV]
    · have h' : ¬ x = y := fun z => h z.symm
      simp [eqV, h, h']
theorem inV_ints (x : Int) (xs : List Int) : inV (.int x) (xs.map V.int) = decide (x ∈ xs) := by
  induction xs with
  | nil => rfl
  | cons y ys ih =>
    have e : inV (.int x) ((y :: ys).map V.int) = (eqV (.int y) (.int x) || inV (.int x) (ys.map V.int)) := rfl
    rw [e, ih]
    by_cases h : y = x
    · subst h; simp [eqV]
    · have h' : ¬ x = y := fun z => h z.symm
      simp [eqV, h, h']
/-- a comparison as a test whose answer is told -/
theorem et_cmp1 {op : CmpOp} {r : R2} {k : Bool} (ho : OpR X (compareOp op) r) (ha : Ev X W a σ G H P1) (hb : Ev X W b σ G H P2) (hr : RR X W r P1 P2 (· = .bl k)) (hm : behindInMarks op b = false := by first | rfl | exact nomark _) : EvT X W (.Compare a [op] [b] pos) σ G H (· = k) :=
  et_cmp ho ha hb (fun x y d1 d2 G1 H1 k p1 p2 r1 r2 Q q => hr x y d1 d2 G1 H1 k p1 p2 r1 r2 Q fun v d G2 H2 c e r => q v d G2 H2 c ⟨_, e, rfl⟩ r) hm
theorem et_inS {d : D} {x : Str} {xs : List Str} (ha : Ev X W a σ G H (· = .str x)) (hb : Ev X W b σ G H (· = d)) (hd : seq? d = some (xs.map .str) := by rfl) (hm : behindInMarks .In b = false := by rfl) : EvT X W (.Compare a [.In] [b] pos) σ G H (· = decide (x ∈ xs)) :=
  (et_cmp1 op_in_seq ha hb (rr_in rfl hd (flats_strs xs)) hm).imp fun _ h => h.trans (inV_strs x xs)
theorem et_niS {d : D} {x : Str} {xs : List Str} (ha : Ev X W a σ G H (· = .str x)) (hb : Ev X W b σ G H (· = d)) (hd : seq? d = some (xs.map .str) := by rfl) (hm : behindInMarks .NotIn b = false := by rfl) : EvT X W (.Compare a [.NotIn] [b] pos) σ G H (· = !decide (x ∈ xs)) :=
  (et_cmp1 op_notIn_seq ha hb (rr_in rfl hd (flats_strs xs)) hm).imp fun _ h => h.trans (by rw [← inV_strs x xs]; rfl)
theorem et_inI {d : D} {x : Int} {xs : List Int} (ha : Ev X W a σ G H (· = .int x)) (hb : Ev X W b σ G H (· = d)) (hd : seq? d = some (xs.map .int) := by rfl) (hm : behindInMarks .In b = false := by rfl) : EvT X W (.Compare a [.In] [b] pos) σ G H (· = decide (x ∈ xs)) :=
  (et_cmp1 op_in_seq ha hb (rr_in rfl hd (flats_ints xs)) hm).imp fun _ h => h.trans (inV_ints x xs)
theorem et_niI {d : D} {x : Int} {xs : List Int} (ha : Ev X W a σ G H (· = .int x)) (hb : Ev X W b σ G H (· = d)) (hd : seq? d = some (xs.map .int) := by rfl) (hm : behindInMarks .NotIn b = false := by rfl) : EvT X W (.Compare a [.NotIn] [b] pos) σ G H (· = !decide (x ∈ xs)) :=
  (et_cmp1 op_notIn_seq ha hb (rr_in rfl hd (flats_ints xs)) hm).imp fun _ h => h.trans (by rw [← inV_ints x xs]; rfl)
/-- one sign in a text -/
theorem rr_inSign {c : Nat} {z : Str} : RR X W rInS (· = .str ⟨#[c]⟩) (· = .str z) (· = .bl (decide (c ∈ z.cps.toList))) := fun x y d1 d2 G1 H1 k p1 p2 r1 r2 Q q => by
  subst p1; subst p2
  exact ⟨c, z, r1.str_v, r2.str_v, q _ _ G1 H1 (Ch.refl k) rfl (.bl _)⟩
theorem ev_inSign {c : Nat} {z : Str} (ha : Ev X W a σ G H (· = .str ⟨#[c]⟩)) (hb : Ev X W b σ G H (· = .str z)) (hm : behindInMarks .In b = false := by rfl) : Ev X W (.Compare a [.In] [b] pos) σ G H (· = .bl (decide (c ∈ z.cps.toList))) :=
  ev_cmp op_inS ha hb rr_inSign hm

/-! ### isinstance -/
def tyN : D → String | .non => "NoneType" | .bl _ => "bool" | .int _ => "int" | .str _ => "str" | .lst _ => "list" | .tup _ => "tuple" | .dic _ => "dict" | .ins .. => ""
/-- the own class at C, told to isinstance -/
structure ClsI (K : PySem.W.Frag) (C : Addr) : Prop where
  cl : Cls K C
  ha : PySem.W.findIn K (.ref C) "__class__" = some (some (.builtin "object.__class__"))
  hn : PySem.W.specialIn K (.builtin "object.__class__") "__get__" = some (some (.builtin "getset_descriptor.__get__"))
  htk : PySem.W.takesIn K (.builtin "object.__class__") = some true
  hm : PySem.W.mroIn K C (.type "object") = some true
theorem Rp.tyX {K : PySem.W.Frag} {mg : Str → Option Value} {G : Hp} {v : V} {d : D} (h : Rp K mg G v d) (hi : ∀ c fs C, d = .ins c fs → mg c = some (.ref C) → ClsI K C) : ∃ t, TyX K G v t ∧ (t = .type (tyN d) ∨ ∃ c fs C, d = .ins c fs ∧ mg c = some (.ref C) ∧ t = .ref C) := by
  cases h with
  | non => exact ⟨_, .base .non, .inl rfl⟩
  | bl b => exact ⟨_, .base (.bl b), .inl rfl⟩
  | int b => exact ⟨_, .base (.int b), .inl rfl⟩
  | str b => exact ⟨_, .base (.str b), .inl rfl⟩
  | lst h r =>
    rcases h with (h | ⟨o, h⟩) | ⟨o, its, n, h, hc, _⟩
    · exact ⟨_, .base (.lst h), .inl rfl⟩
    · exact ⟨_, .base (.frz h), .inl rfl⟩
    · exact ⟨_, .kList h hc, .inl rfl⟩
  | tup h r =>
    rcases h with (h | ⟨o, h⟩) | ⟨o, its, n, h, hc, _⟩
    · exact ⟨_, .base (.tup h), .inl rfl⟩
    · exact ⟨_, .fTuple h, .inl rfl⟩
    · exact ⟨_, .kTuple h hc, .inl rfl⟩
  | dic h r => exact ⟨_, .base (.dK h), .inl rfl⟩
  | ins h1 h2 h3 h4 =>
    have z := hi _ _ _ rfl h1
    exact ⟨_, .base (.ins h2 z.cl z.ha z.hn z.htk z.hm), .inr ⟨_, _, _, rfl, h1, rfl⟩⟩
def insOf : D → Option Str | .ins c _ => some c | _ => none
theorem tyX_ext {K : PySem.W.Frag} {G H : Hp} {v : V} {t : Value} (e : Ext G H) (h : TyX K G v t) : TyX K H v t := by
  cases h with
  | base h =>
    refine .base ?_
    cases h with
    | non => exact .non
    | bl b => exact .bl b
    | int b => exact .int b
    | str b => exact .str b
    | flt b => exact .flt b
    | lst h => exact .lst (e _ _ h)
    | frz h => exact .frz (e _ _ h)
    | tup h => exact .tup (e _ _ h)
    | dK h => exact .dK (e _ _ h)
    | dT h => exact .dT (e _ _ h)
    | ins h a b c d f => exact .ins (e _ _ h) a b c d f
  | byt b => exact .byt b
  | set h => exact .set (e _ _ h)
  | kList h c => exact .kList h c
  | kTuple h c => exact .kTuple h c
  | kDict h c => exact .kDict h c
  | fTuple h => exact .fTuple (e _ _ h)
  | fDict h => exact .fDict (e _ _ h)
/-- isinstance(x, T), T a built-in class, x plain data (no instance) -/
theorem ev_isi {d : D} {T x : Str} {n : String} {k : Bool} {q2 : Pos} (hm : X.mg "isinstance" = none) (hmT : X.mg x = none) (ha : Ev X W a σ G H (· = d)) (hi : insOf d = none) (hk : kitB (tyN d) n = some k) (hv : bootBuiltins x = some (.type n) := by decide +kernel) (hg : Gl X "isinstance" := by rfl) (hgT : Gl X x := by rfl)
    (hn1 : x ≠ "__name__" := by decide) (hd1 : (x == ("__debug__" : Str)) = false := by decide)
    (he : starEach [a, .Name x q2] X.env = (false, eval a X.env) :: starEach [.Name x q2] X.env := by rfl) (he2 : starEach [.Name x q2] X.env = (false, eval (.Name x q2) X.env) :: starEach [] X.env := by rfl) (hpl : (backTo pos (starEach [.Name x q2] X.env)).any (·.1) = false := by rfl) :
    Ev X W (.Call (.Name "isinstance" p) [a, .Name x q2] [] pos) σ G H (· = .bl k) := fun G1 H1 c Q q =>
  semE_of (pe_callB call_isi hg hm (by decide +kernel) (pa_cons pe_sem (pa_cons (pe_bltn (v := .ty n) hgT hmT hv rfl hn1 hd1) pa_nil he2) he) (by decide) (by decide) he hpl) (ha G1 H1 c _ fun v d' G2 H2 c2 e r => by
    subst e
    obtain ⟨t, ht, e⟩ := r.tyX (fun c fs C z _ => by subst z; cases hi)
    rcases e with e | ⟨c, fs, C, z, _⟩
    · subst e
      exact ⟨v, .ty n, _, .type n, k, rfl, .ty n, tyX_ext c2.ok.gh ht, kit_ty hk, q _ _ G2 H2 c2 rfl (.bl _)⟩
    · subst z; cases hi)
end
end GX
set_option Elab.async false
set_option linter.all false
set_option maxRecDepth 100000
set_option maxHeartbeats 1000000
/-! GX3: lists of one's own, statements, loops, comprehensions. -/
namespace GX
open PySem L2

/-! ### a list that nobody else knows: it may be changed -/
structure OwnL (K : PySem.W.Frag) (mg : Str → Option Value) (W : Wd) (G H : Hp) (l : Addr) (ds : List D) : Prop where
  g : G l = none
  m : ¬ W.M l
  ex : ∃ vs, H l = some (.lst vs) ∧ RpA K mg G vs ds
section
variable {K : PySem.W.Frag} {mg : Str → Option Value} {W : Wd} {S T : Addr → Prop} {G H G1 H1 G2 H2 : Hp} {l l2 : Addr} {ds : List D}
theorem OwnL.tr (o : OwnL K mg W G H l ds) : H l ≠ none := by
  obtain ⟨vs, h, _⟩ := o.ex
  rw [h]; exact fun z => nomatch z
theorem OwnL.ch (o : OwnL K mg W G H l ds) (c : Ch W S G H G1 H1) (h : ¬ S l) : OwnL K mg W G1 H1 l ds := by
  obtain ⟨vs, h1, h2⟩ := o.ex
  exact ⟨c.fr l o.tr o.g, o.m, vs, c.hh l _ o.m h h1, h2.mono c.gg⟩
theorem OwnL.ch0 (o : OwnL K mg W G H l ds) (c : Ch W N0 G H G1 H1) : OwnL K mg W G1 H1 l ds := o.ch c fun z => z
theorem Ch.loc (a : Ch W S G H G1 H1) (b : Ch W T G1 H1 G2 H2) (h : ∀ x, T x → S x ∨ H x = none) : Ch W S G H G2 H2 :=
  ⟨fun x o m s e => b.hh x o m (fun t => by
    rcases h x t with z | z
    · exact s z
    · rw [z] at e; cases e) (a.hh x o m s e), a.gg.trans b.gg, fun x e g => b.fr x (a.th x e) (a.fr x e g), fun x e => b.th x (a.th x e), b.ok⟩
/-- one's own list becomes known for good -/
theorem OwnL.fz (o : OwnL K mg W G1 H1 l ds) (c : Ch W S G H G1 H1) (h : H l = none) : ∃ G2, Ch W S G H G2 H1 ∧ Rp K mg G2 (.ref l) (.lst ds) ∧ Ext G1 G2 := by
  obtain ⟨vs, h1, h2⟩ := o.ex
  have e : Ext G1 (upd G1 l (.lst vs)) := fun a u z => by rw [upd_ne (ne_of_none z o.g)]; exact z
  exact ⟨upd G1 l (.lst vs), c.freeze h h1 o.g o.m, .lst (SqL.of upd_same) (h2.mono e), e⟩
/-- .. with its facts about what else is one's own -/
theorem OwnL.fz2 (o : OwnL K mg W G1 H1 l ds) (k : Ok W G1 H1) : ∃ G2, Ok W G2 H1 ∧ Rp K mg G2 (.ref l) (.lst ds) ∧ Ext G1 G2 ∧ ∀ a, a ≠ l → G1 a = none → G2 a = none := by
  obtain ⟨vs, h1, h2⟩ := o.ex
  have e : Ext G1 (upd G1 l (.lst vs)) := fun a u z => by rw [upd_ne (ne_of_none z o.g)]; exact z
  refine ⟨upd G1 l (.lst vs), ⟨fun a u z => ?_, k.j, fun a m => ?_⟩, .lst (SqL.of upd_same) (h2.mono e), e, fun a ha g => by rw [upd_ne ha]; exact g⟩
  · by_cases q : a = l
    · subst q; rw [upd_same] at z; cases z; exact h1
    · rw [upd_ne q] at z; exact k.gh a u z
  · rw [upd_ne (fun z : a = l => o.m (by rw [← z]; exact m))]; exact k.gm a m
theorem OwnL.of_new {vs : List V} (h1 : G l = none) (h2 : ¬ W.M l) (h3 : H l = some (.lst vs)) (h4 : RpA K mg G vs ds) : OwnL K mg W G H l ds := ⟨h1, h2, vs, h3, h4⟩
end

section
variable {X : Cx} {W : Wd} {e a b c it tg : Expr} {es ifs : List Expr} {σ : St} {G H G1 H1 : Hp} {P P1 P2 : D → Prop} {pos p : Pos} {l : Addr} {ds : List D} {D0 : Ends} {rest body orelse : List Stmt} {st : Stmt}
/-! reading one's own list: it is taken as known for the while -/
theorem Ch.with {o : HO} (hg : G l = none) (hm : ¬ W.M l) (h : H l = some o) (c : Ch W N0 G H G1 H1) : Ch W N0 (upd G l o) H (upd G1 l o) H1 where
  hh := c.hh
  gg := fun a u z => by
    by_cases q : a = l
    · subst q; rw [upd_same] at z ⊢; exact z
    · rw [upd_ne q] at z ⊢; exact c.gg a u z
  fr := fun a z g => by
    by_cases q : a = l
    · subst q; rw [upd_same] at g; cases g
    · rw [upd_ne q] at g ⊢; exact c.fr a z g
  th := c.th
  ok := ⟨fun a u z => by
    by_cases q : a = l
    · subst q; rw [upd_same] at z; cases z; exact c.hh a _ hm (fun z => z) h
    · rw [upd_ne q] at z; exact c.ok.gh a u z, c.ok.j, fun a m => by rw [upd_ne (fun z : a = l => hm (by rw [← z]; exact m))]; exact c.ok.gm a m⟩
/-- .. and is not known behind it -/
def rmv (G : Hp) (l : Addr) : Hp := fun a => if a = l then none else G a
theorem rmv_same {G : Hp} {l : Addr} : rmv G l l = none := if_pos rfl
theorem rmv_ne {G : Hp} {l a : Addr} (h : a ≠ l) : rmv G l a = G a := if_neg h
theorem Ch.without {o : HO} {G2 H2 : Hp} (hg : G l = none) (hm : ¬ W.M l) (h : H l = some o) (c : Ch W N0 (upd G l o) H G2 H2) : Ch W N0 G H (rmv G2 l) H2 where
  hh := c.hh
  gg := fun a u z => by
    have q : a ≠ l := ne_of_none z hg
    rw [rmv_ne q]
    exact c.gg a u (by rw [upd_ne q]; exact z)
  fr := fun a z g => by
    by_cases q : a = l
    · rw [q]; exact rmv_same
    · rw [rmv_ne q]; exact c.fr a z (by rw [upd_ne q]; exact g)
  th := c.th
  ok := ⟨fun a u z => by
    by_cases q : a = l
    · rw [q, rmv_same] at z; cases z
    · rw [rmv_ne q] at z; exact c.ok.gh a u z, c.ok.j, fun a m => by
    by_cases q : a = l
    · rw [q]; exact rmv_same
    · rw [rmv_ne q]; exact c.ok.gm a m⟩
theorem et_thaw {PB : Bool → Prop} {o : HO} (hg : G l = none) (hm : ¬ W.M l) (h : H l = some o) (t : EvT X W e σ (upd G l o) H PB) : EvT X W e σ G H PB := fun G1 H1 c Q q =>
  t _ H1 (c.with hg hm h) Q fun b G2 H2 c2 p => q b _ H2 (Ch.without (c.fr l (by rw [h]; exact fun z => nomatch z) hg) hm (c.hh l _ hm (fun z => z) h) c2) p
theorem Rp.flat_any {K : PySem.W.Frag} {mg : Str → Option Value} {G G' : Hp} {v : V} {d : D} (h : Rp K mg G v d) (f : (GX.flat d).isSome = true) : Rp K mg G' v d := by
  cases h <;> first | exact .non | exact .bl _ | exact .int _ | exact .str _ | (simp [GX.flat] at f)
theorem ev_thaw {o : HO} (hg : G l = none) (hm : ¬ W.M l) (h : H l = some o) (t : Ev X W e σ (upd G l o) H P) (hf : ∀ d, P d → (flat d).isSome = true) : Ev X W e σ G H P := fun G1 H1 c Q q =>
  t _ H1 (c.with hg hm h) Q fun v d G2 H2 c2 p r => q v d _ H2 (Ch.without (c.fr l (by rw [h]; exact fun z => nomatch z) hg) hm (c.hh l _ hm (fun z => z) h) c2) p (r.flat_any (hf d p))
theorem OwnL.et {PB : Bool → Prop} (o : OwnL X.K X.mg W G H l ds) (k : Ok W G H) (t : ∀ G', Ok W G' H → Ext G G' → Rp X.K X.mg G' (.ref l) (.lst ds) → EvT X W e σ G' H PB) : EvT X W e σ G H PB := by
  obtain ⟨vs, h1, h2⟩ := o.ex
  have ex : Ext G (upd G l (.lst vs)) := fun a u z => by rw [upd_ne (ne_of_none z o.g)]; exact z
  exact et_thaw o.g o.m h1 (t _ (Ch.with o.g o.m h1 (Ch.refl k)).ok ex (.lst (SqL.of upd_same) (h2.mono ex)))
theorem OwnL.ev (o : OwnL X.K X.mg W G H l ds) (k : Ok W G H) (t : ∀ G', Ok W G' H → Ext G G' → Rp X.K X.mg G' (.ref l) (.lst ds) → Ev X W e σ G' H P) (hf : ∀ d, P d → (flat d).isSome = true) : Ev X W e σ G H P := by
  obtain ⟨vs, h1, h2⟩ := o.ex
  have ex : Ext G (upd G l (.lst vs)) := fun a u z => by rw [upd_ne (ne_of_none z o.g)]; exact z
  exact ev_thaw o.g o.m h1 (t _ (Ch.with o.g o.m h1 (Ch.refl k)).ok ex (.lst (SqL.of upd_same) (h2.mono ex))) hf
/-- a name that holds an address -/
theorem semE_v (i : Nat) {x : Str} {v : V} {Q : VK} (hs : σ[i]? = some (some v)) (q : Q v H) (hN : X.N[i]? = some x := by rfl) (hv : Vis X.env.scope x := by first | exact Or.inl rfl | exact Or.inr (Or.inl rfl) | exact Or.inr (Or.inr rfl)) (hd : (x == ("__debug__" : Str)) = false := by decide) (hcd : (x == ("__classdict__" : Str)) = false := by decide) : semE X (.Name x pos) σ H Q :=
  semE_of (pe_var hN hv hd hcd) ⟨v, hs, q⟩
/-- list(l), tuple(l), l[i] of one's own list -/
theorem OwnL.ixL {i : Int} {d : D} {ib : Nat} {x : Str} (o : OwnL X.K X.mg W G H l ds) (hs : σ[ib]? = some (some (.ref l))) (hb : Ev X W b σ G H (· = .int i)) (h : atI ds i = some d) (hN : X.N[ib]? = some x := by rfl) (hv : Vis X.env.scope x := by first | exact Or.inl rfl | exact Or.inr (Or.inl rfl) | exact Or.inr (Or.inr rfl)) (hx : PlainIx b := by exact fun _ _ => rfl) (hd : (x == ("__debug__" : Str)) = false := by decide) (hcd : (x == ("__classdict__" : Str)) = false := by decide) : Ev X W (.Subscript (.Name x p) b pos) σ G H (· = d) := fun G1 H1 c Q q => by
  obtain ⟨vs, h1, h2⟩ := o.ex
  obtain ⟨j, hj, hd'⟩ := Option.bind_eq_some_iff.mp h
  obtain ⟨v, hv', rv⟩ := h2.get hd'
  refine semE_of (pe_ix ix_list pe_sem pe_sem hx) (semE_v ib hs ?_ hN hv hd hcd)
  refine hb G1 H1 c _ fun y d2 G2 H2 c2 e r2 => ?_
  subst e
  exact ⟨l, vs, i, v, rfl, r2.int_v, SqL.of ((c.trans c2).hh l _ o.m (fun z => z) h1), by unfold atI; rw [h2.length, hj]; exact hv', q v d G2 H2 c2 rfl (rv.mono (c.trans c2).gg)⟩

/-! ### statements -/
theorem q_nil (h : D0.nx σ H) : semB X [] D0 σ H := semB_of pss_nil h
theorem q_cons {t : TS} (p : PS X st t) (h : t { D0 with nx := semB X rest D0 } σ H) : semB X (st :: rest) D0 σ H := semB_of (pss_cons p pss_sem) h
theorem q_asg {x : Str} {p' : Pos} (i : Nat) (nd : X.N.Nodup) (k : Ok W G H) (h : Ev X W e σ G H P) (cont : ∀ v d G1 H1, Ch W N0 G H G1 H1 → P d → Rp X.K X.mg G1 v d → semB X rest D0 (σ.set i (some v)) H1) (hi : X.N[i]? = some x := by rfl) (hx : Loc X.env.scope x := by first | exact Or.inl rfl | exact Or.inr rfl)
    (hs : swapsWith e (some (.Name x p')) pos.line X.env = pure false := by rfl) (hf : X.fn x = true ∨ X.env.scope.names.lookup x = some .local := by first | exact .inl rfl | exact .inr rfl) : semB X (.Assign [.Name x p'] e pos :: rest) D0 σ H :=
  q_cons (ps_set nd hi hx pe_sem hs hf) (h G H (Ch.refl k) _ cont)
theorem q_asgN {x : Str} {p' : Pos} {PL : List D → Prop} (i : Nat) (nd : X.N.Nodup) (k : Ok W G H) (h : EvN X W e σ G H PL) (cont : ∀ p ds G1 H1, Ch W N0 G H G1 H1 → H p = none → OwnL X.K X.mg W G1 H1 p ds → PL ds → semB X rest D0 (σ.set i (some (.ref p))) H1) (hi : X.N[i]? = some x := by rfl) (hx : Loc X.env.scope x := by first | exact Or.inl rfl | exact Or.inr rfl)
    (hs : swapsWith e (some (.Name x p')) pos.line X.env = pure false := by rfl) (hf : X.fn x = true ∨ X.env.scope.names.lookup x = some .local := by first | exact .inl rfl | exact .inr rfl) : semB X (.Assign [.Name x p'] e pos :: rest) D0 σ H :=
  q_cons (ps_set nd hi hx pe_sem hs hf) (h G H (Ch.refl k) _ fun p vs ds G1 H1 c h1 h2 h3 h4 h5 h6 => cont p ds G1 H1 c h1 ⟨h2, h3, vs, h4, h5⟩ h6)
theorem q_ret (k : Ok W G H) (h : Ev X W e σ G H P) (cont : ∀ v d G1 H1, Ch W N0 G H G1 H1 → P d → Rp X.K X.mg G1 v d → D0.rt v H1) : semB X (.Return (some e) pos :: rest) D0 σ H :=
  q_cons (ps_ret pe_sem) (h G H (Ch.refl k) _ cont)
theorem q_drop (k : Ok W G H) (h : Ev X W e σ G H P) (cont : ∀ d G1 H1, Ch W N0 G H G1 H1 → P d → semB X rest D0 σ H1) (hs : swapsWith e none pos.line X.env = pure false := by rfl) : semB X (.Expr e pos :: rest) D0 σ H :=
  q_cons (ps_expr pe_sem hs) (h G H (Ch.refl k) _ fun v d G1 H1 c p r => cont d G1 H1 c p)
theorem q_if {PB : Bool → Prop} (k : Ok W G H) (h : EvT X W c σ G H PB) (h1 : PB true → ∀ G1 H1, Ch W N0 G H G1 H1 → semB X body { D0 with nx := semB X rest D0 } σ H1) (h2 : PB false → ∀ G1 H1, Ch W N0 G H G1 H1 → semB X orelse { D0 with nx := semB X rest D0 } σ H1) : semB X (.If c body orelse pos :: rest) D0 σ H :=
  q_cons (ps_if pt_sem pss_sem pss_sem) (h G H (Ch.refl k) _ fun b G1 H1 cc p => by
    cases b with
    | true => exact h1 p G1 H1 cc
    | false => exact h2 p G1 H1 cc)
theorem semB_mono {D1 D2 : Ends} {sts : List Stmt} (h : semB X sts D1 σ H) (h1 : ∀ σ H, D1.nx σ H → D2.nx σ H) (h2 : ∀ v H, D1.rt v H → D2.rt v H) (h3 : ∀ σ H, D1.bk σ H → D2.bk σ H) (h4 : ∀ σ H, D1.ct σ H → D2.ct σ H) : semB X sts D2 σ H := fun pins s I =>
  thn (h pins s I) fun f s' q => by
    cases f with
    | next => obtain ⟨σ', H', I', q⟩ := q; exact ⟨σ', H', I', h1 _ _ q⟩
    | brk => obtain ⟨σ', H', I', q⟩ := q; exact ⟨σ', H', I', h3 _ _ q⟩
    | cont => obtain ⟨σ', H', I', q⟩ := q; exact ⟨σ', H', I', h4 _ _ q⟩
    | ret u => obtain ⟨v, σ', H', I', r, q⟩ := q; exact ⟨v, σ', H', I', r, h2 _ _ q⟩
/-- an if whose ways meet at Mid -/
theorem q_ifM {PB : Bool → Prop} (Mid : St → Hp → Prop) (k : Ok W G H) (h : EvT X W c σ G H PB) (h1 : PB true → ∀ G1 H1, Ch W N0 G H G1 H1 → semB X body { D0 with nx := Mid } σ H1) (h2 : PB false → ∀ G1 H1, Ch W N0 G H G1 H1 → semB X orelse { D0 with nx := Mid } σ H1)
    (cont : ∀ σ' H', Mid σ' H' → semB X rest D0 σ' H') : semB X (.If c body orelse pos :: rest) D0 σ H :=
  q_if k h (fun p G1 H1 cc => semB_mono (h1 p G1 H1 cc) cont (fun _ _ z => z) (fun _ _ z => z) fun _ _ z => z) (fun p G1 H1 cc => semB_mono (h2 p G1 H1 cc) cont (fun _ _ z => z) (fun _ _ z => z) fun _ _ z => z)
end
end GX
set_option Elab.async false
set_option linter.all false
set_option maxRecDepth 100000
set_option maxHeartbeats 1000000
/-! GX4: what is walked, loops, comprehensions. -/
namespace GX
open PySem L2

/-- J yields the data L, one by one, wherever G is known -/
structure Itd (K : PySem.W.Frag) (mg : Str → Option Value) (W : Wd) (J : It) (G : Hp) (L : List D) : Prop where
  go : ∀ i G1 H1, i < L.length → Ext G G1 → Ok W G1 H1 → J.go i H1
  yld : ∀ i d G1 H1 x H2, L[i]? = some d → Ext G G1 → Ok W G1 H1 → J.yld i H1 x H2 → ∃ G2, Ch W N0 G1 H1 G2 H2 ∧ Rp K mg G2 x d
  stop : ∀ G1 H1, Ext G G1 → Ok W G1 H1 → J.stop L.length H1
theorem Itd.mono {K : PySem.W.Frag} {mg : Str → Option Value} {W : Wd} {J : It} {G G1 : Hp} {L : List D} (h : Itd K mg W J G L) (e : Ext G G1) : Itd K mg W J G1 L :=
  ⟨fun i G2 H2 hi x k => h.go i G2 H2 hi (e.trans x) k, fun i d G2 H2 x H3 hi z k => h.yld i d G2 H2 x H3 hi (e.trans z) k, fun G2 H2 x k => h.stop G2 H2 (e.trans x) k⟩
theorem itd_l {K : PySem.W.Frag} {mg : Str → Option Value} {W : Wd} {G : Hp} {a : Addr} {vs : List V} {L : List D} (h : SqL K G a vs) (r : RpA K mg G vs L) : Itd K mg W (Itl K a) G L where
  go := fun i G1 H1 hi e k => ⟨vs, vs[i]'(by rw [r.length]; exact hi), k.gh.l (e.l h), List.getElem?_eq_getElem _⟩
  yld := fun i d G1 H1 x H2 hi e k y => by
    obtain ⟨rfl, y⟩ := y
    obtain ⟨v, hv, rv⟩ := r.get hi
    have := y vs (k.gh.l (e.l h))
    rw [hv] at this; cases this
    exact ⟨G1, Ch.refl k, rv.mono e⟩
  stop := fun G1 H1 e k => ⟨vs, k.gh.l (e.l h), by rw [r.length]; exact Nat.le_refl _⟩
theorem itd_t {K : PySem.W.Frag} {mg : Str → Option Value} {W : Wd} {G : Hp} {a : Addr} {vs : List V} {L : List D} (h : SqT K G a vs) (r : RpA K mg G vs L) : Itd K mg W (Itt K a) G L where
  go := fun i G1 H1 hi e k => ⟨vs, vs[i]'(by rw [r.length]; exact hi), k.gh.t (e.t h), List.getElem?_eq_getElem _⟩
  yld := fun i d G1 H1 x H2 hi e k y => by
    obtain ⟨rfl, y⟩ := y
    obtain ⟨v, hv, rv⟩ := r.get hi
    have := y vs (k.gh.t (e.t h))
    rw [hv] at this; cases this
    exact ⟨G1, Ch.refl k, rv.mono e⟩
  stop := fun G1 H1 e k => ⟨vs, k.gh.t (e.t h), by rw [r.length]; exact Nat.le_refl _⟩
theorem itd_r {K : PySem.W.Frag} {mg : Str → Option Value} {W : Wd} {G : Hp} {lo : Int} {n : Nat} : Itd K mg W (Itr lo n) G ((List.range n).map fun i => .int (lo + (i : Nat))) where
  go := fun i G1 H1 hi e k => by
    show i < n
    simpa using hi
  yld := fun i d G1 H1 x H2 hi e k y => by
    obtain ⟨rfl, rfl⟩ := y
    rw [List.getElem?_map] at hi
    cases q : (List.range n)[i]? with
    | none => rw [q] at hi; cases hi
    | some j =>
      rw [q] at hi; cases hi
      have := (List.getElem?_eq_some_iff.mp q).2
      rw [List.getElem_range] at this
      subst this
      exact ⟨G1, Ch.refl k, .int _⟩
  stop := fun G1 H1 e k => by show n ≤ _; simp
theorem itd_e {K : PySem.W.Frag} {mg : Str → Option Value} {W : Wd} {G : Hp} {a : Addr} {vs : List V} {L : List D} (h : SqL K G a vs) (r : RpA K mg G vs L) : Itd K mg W (Ite K a) G (L.zipIdx.map fun q => .tup [.int (q.2 : Nat), q.1]) where
  go := fun i G1 H1 hi e k => by
    rw [List.length_map, List.length_zipIdx] at hi
    exact ⟨vs, vs[i]'(by rw [r.length]; exact hi), k.gh.l (e.l h), List.getElem?_eq_getElem _⟩
  yld := fun i d G1 H1 x H2 hi e k y => by
    obtain ⟨T, z, rfl, hT, rfl, y⟩ := y
    rw [List.getElem?_map, List.getElem?_zipIdx] at hi
    cases q : L[i]? with
    | none => rw [q] at hi; cases hi
    | some d' =>
      rw [q] at hi
      cases hi
      obtain ⟨v, hv, rv⟩ := r.get q
      have := y vs (k.gh.l (e.l h))
      rw [hv] at this; cases this
      have cn : Ch W N0 G1 H1 (upd G1 T (.tup [.int (i : Nat), z])) (upd H1 T (.tup [.int (i : Nat), z])) := Ch.new k hT
      refine ⟨_, cn, .tup (SqT.of upd_same) (.cons ?_ (.cons ((rv.mono e).mono cn.gg) .nil))⟩
      show Rp K mg _ _ (.int ((0 + i : Nat) : Int))
      rw [Nat.zero_add]
      exact .int _
  stop := fun G1 H1 e k => by
    rw [List.length_map, List.length_zipIdx]
    exact ⟨vs, k.gh.l (e.l h), by rw [r.length]; exact Nat.le_refl _⟩
theorem itd_z {K : PySem.W.Frag} {mg : Str → Option Value} {W : Wd} {G : Hp} {a b : Addr} {vs ws : List V} {L M : List D} (h : SqL K G a vs) (r : RpA K mg G vs L) (h2 : SqL K G b ws) (r2 : RpA K mg G ws M) : Itd K mg W (Itz K a b) G ((L.zip M).map fun q => .tup [q.1, q.2]) where
  go := fun i G1 H1 hi e k => by
    rw [List.length_map, List.length_zip] at hi
    exact ⟨vs, ws, vs[i]'(by rw [r.length]; omega), ws[i]'(by rw [r2.length]; omega), k.gh.l (e.l h), k.gh.l (e.l h2), List.getElem?_eq_getElem _, List.getElem?_eq_getElem _⟩
  yld := fun i d G1 H1 x H2 hi e k y => by
    obtain ⟨T, x, z, rfl, hT, rfl, y1, y2⟩ := y
    rw [List.getElem?_map] at hi
    cases q : (L.zip M)[i]? with
    | none => rw [q] at hi; cases hi
    | some d' =>
      rw [q] at hi
      cases hi
      rw [List.getElem?_zip_eq_some] at q
      obtain ⟨v, hv, rv⟩ := r.get q.1
      obtain ⟨v2, hv2, rv2⟩ := r2.get q.2
      have := y1 vs (k.gh.l (e.l h))
      rw [hv] at this; cases this
      have := y2 ws (k.gh.l (e.l h2))
      rw [hv2] at this; cases this
      have cn : Ch W N0 G1 H1 (upd G1 T (.tup [x, z])) (upd H1 T (.tup [x, z])) := Ch.new k hT
      exact ⟨_, cn, .tup (SqT.of upd_same) (.cons ((rv.mono e).mono cn.gg) (.cons ((rv2.mono e).mono cn.gg) .nil))⟩
  stop := fun G1 H1 e k => by
    rw [List.length_map, List.length_zip]
    have := r.length; have := r2.length
    exact ⟨vs, ws, k.gh.l (e.l h), k.gh.l (e.l h2), by omega⟩
theorem itd_zT {K : PySem.W.Frag} {mg : Str → Option Value} {W : Wd} {G : Hp} {a b : Addr} {vs ws : List V} {L M : List D} (h : SqT K G a vs) (r : RpA K mg G vs L) (h2 : SqT K G b ws) (r2 : RpA K mg G ws M) : Itd K mg W (RZ.ItzT K a b) G ((L.zip M).map fun q => .tup [q.1, q.2]) where
  go := fun i G1 H1 hi e k => by
    rw [List.length_map, List.length_zip] at hi
    exact ⟨vs, ws, vs[i]'(by rw [r.length]; omega), ws[i]'(by rw [r2.length]; omega), k.gh.t (e.t h), k.gh.t (e.t h2), List.getElem?_eq_getElem _, List.getElem?_eq_getElem _⟩
  yld := fun i d G1 H1 x H2 hi e k y => by
    obtain ⟨T, x, z, rfl, hT, rfl, y1, y2⟩ := y
    rw [List.getElem?_map] at hi
    cases q : (L.zip M)[i]? with
    | none => rw [q] at hi; cases hi
    | some d' =>
      rw [q] at hi
      cases hi
      rw [List.getElem?_zip_eq_some] at q
      obtain ⟨v, hv, rv⟩ := r.get q.1
      obtain ⟨v2, hv2, rv2⟩ := r2.get q.2
      have := y1 vs (k.gh.t (e.t h))
      rw [hv] at this; cases this
      have := y2 ws (k.gh.t (e.t h2))
      rw [hv2] at this; cases this
      have cn : Ch W N0 G1 H1 (upd G1 T (.tup [x, z])) (upd H1 T (.tup [x, z])) := Ch.new k hT
      exact ⟨_, cn, .tup (SqT.of upd_same) (.cons ((rv.mono e).mono cn.gg) (.cons ((rv2.mono e).mono cn.gg) .nil))⟩
  stop := fun G1 H1 e k => by
    rw [List.length_map, List.length_zip]
    have := r.length; have := r2.length
    exact ⟨vs, ws, k.gh.t (e.t h), k.gh.t (e.t h2), by omega⟩
theorem itd_s {K : PySem.W.Frag} {mg : Str → Option Value} {W : Wd} {G : Hp} {x : Str} : Itd K mg W (L2.Its x) G (x.cps.toList.map fun c => .str ⟨#[c]⟩) where
  go := fun i G1 H1 hi e k => by
    show i < x.cps.size
    simpa using hi
  yld := fun i d G1 H1 y H2 hi e k h => by
    obtain ⟨rfl, c, hc, rfl⟩ := h
    rw [List.getElem?_map, Array.getElem?_toList, hc] at hi
    cases hi
    exact ⟨G1, Ch.refl k, .str _⟩
  stop := fun G1 H1 e k => by show x.cps.size ≤ _; simp

/-- it, walked by the target tg, yields L -/
def EvI (X : Cx) (W : Wd) (tg it : Expr) (σ : St) (G H : Hp) (L : List D) : Prop := ∀ G1 H1, Ch W N0 G H G1 H1 → ∀ R : It → Hp → Prop, (∀ J G2 H2, Ch W N0 G1 H1 G2 H2 → Itd X.K X.mg W J G2 L → R J H2) → semI X tg it σ H1 R
/-- .. the data not told ahead -/
def EvIP (X : Cx) (W : Wd) (tg it : Expr) (σ : St) (G H : Hp) (P : List D → Prop) : Prop := ∀ G1 H1, Ch W N0 G H G1 H1 → ∀ R : It → Hp → Prop, (∀ J L G2 H2, Ch W N0 G1 H1 G2 H2 → P L → Itd X.K X.mg W J G2 L → R J H2) → semI X tg it σ H1 R
section
variable {X : Cx} {W : Wd} {e a b c it tg : Expr} {es ifs : List Expr} {σ : St} {G H G1 H1 : Hp} {P P1 P2 : D → Prop} {pos p : Pos} {l : Addr} {ds L M : List D} {D0 : Ends} {rest body orelse : List Stmt} {st : Stmt}
theorem EvI.toP (h : EvI X W tg it σ G H L) : EvIP X W tg it σ G H (· = L) := fun G1 H1 c R q => h G1 H1 c R fun J G2 H2 c2 i => q J L G2 H2 c2 rfl i
theorem ei_l {d : D} (h : Ev X W it σ G H (· = .lst L)) : EvI X W tg it σ G H L := fun G1 H1 c R q =>
  semI_of (pi_list pe_sem) (h G1 H1 c _ fun v d G2 H2 c2 e r => by
    subst e
    obtain ⟨p, vs, rfl, h, rs⟩ := r.lst_v
    exact ⟨p, rfl, ⟨vs, c2.ok.gh.l h⟩, q _ G2 H2 c2 (itd_l h rs)⟩)
theorem ei_list (h : Ev X W it σ G H (· = .lst L)) : EvI X W tg it σ G H L := ei_l (d := .non) h
theorem ei_listP {PL : List D → Prop} (h : Ev X W it σ G H (fun d => ∃ L, d = .lst L ∧ PL L)) : EvIP X W tg it σ G H PL := fun G1 H1 c R q =>
  semI_of (pi_list pe_sem) (h G1 H1 c _ fun v d G2 H2 c2 ⟨L, e, hp⟩ r => by
    subst e
    obtain ⟨p, vs, rfl, h, rs⟩ := r.lst_v
    exact ⟨p, rfl, ⟨vs, c2.ok.gh.l h⟩, q _ L G2 H2 c2 hp (itd_l h rs)⟩)
theorem ei_tup (h : Ev X W it σ G H (· = .tup L)) : EvI X W tg it σ G H L := fun G1 H1 c R q =>
  semI_of (pi_tup pe_sem) (h G1 H1 c _ fun v d G2 H2 c2 e r => by
    subst e
    obtain ⟨p, vs, rfl, h, rs⟩ := r.tup_v
    exact ⟨p, rfl, ⟨vs, c2.ok.gh.t h⟩, q _ G2 H2 c2 (itd_t h rs)⟩)
theorem ei_seq {d : D} (h : Ev X W it σ G H (· = d)) (hd : seq? d = some L) : EvI X W tg it σ G H L := by
  cases d <;> simp [seq?] at hd
  · subst hd; exact ei_list h
  · subst hd; exact ei_tup h
theorem ei_str {x : Str} (h : Ev X W it σ G H (· = .str x)) : EvI X W tg it σ G H (x.cps.toList.map fun c => .str ⟨#[c]⟩) := fun G1 H1 c R q =>
  semI_of (pi_str pe_sem) (h G1 H1 c _ fun v d G2 H2 c2 e r => by
    subst e
    exact ⟨x, r.str_v, q _ G2 H2 c2 itd_s⟩)
theorem ei_range {n : Int} (hm : X.mg "range" = none) (h : Ev X W a σ G H (· = .int n)) (hn : n < 2 ^ 62) (hn2 : -(2 ^ 62) ≤ n := by omega) (hg : Gl X "range" := by rfl) (hs : starEach [a] X.env = [(false, eval a X.env)] := by rfl) : EvI X W tg (.Call (.Name "range" p) [a] [] pos) σ G H ((List.range n.toNat).map fun i => .int (i : Nat)) := fun G1 H1 c R q =>
  semI_of (pi_range1 hg hm (pa_cons pe_sem pa_nil hs) hs) (h G1 H1 c _ fun v d G2 H2 c2 e r => by
    subst e
    refine ⟨n, by rw [r.int_v], hn2, hn, q _ G2 H2 c2 ?_⟩
    have := itd_r (K := X.K) (mg := X.mg) (W := W) (G := G2) (lo := 0) (n := n.toNat)
    simpa using this)
theorem ei_range2 {m n : Int} (hm : X.mg "range" = none) (h0 : Ev X W b σ G H (· = .int m)) (h : Ev X W a σ G H (· = .int n)) (hn : n < 2 ^ 62) (hn2 : -(2 ^ 62) ≤ n) (hm1 : m < 2 ^ 62) (hm2 : -(2 ^ 62) ≤ m) (hg : Gl X "range" := by rfl) (hs : starEach [b, a] X.env = [(false, eval b X.env), (false, eval a X.env)] := by rfl) (hs2 : starEach [a] X.env = [(false, eval a X.env)] := by rfl) : EvI X W tg (.Call (.Name "range" p) [b, a] [] pos) σ G H ((List.range (n - m).toNat).map fun i => .int (m + (i : Nat))) := fun G1 H1 c R q =>
  semI_of (pi_range2 hg hm (pa_cons pe_sem (pa_cons pe_sem pa_nil hs2) (by rw [hs, hs2])) hs hs2) (h0 G1 H1 c _ fun v d G2 H2 c2 e r => h G2 H2 (c.trans c2) _ fun v' d' G3 H3 c3 e' r' => by
    subst e; subst e'
    exact ⟨m, n, by rw [r.int_v, r'.int_v], ⟨hm2, hm1, hn2, hn⟩, q _ G3 H3 (c2.trans c3) itd_r⟩)
theorem ei_enum {elts : List Expr} {kk : Nat} {tpos : Pos} (hm : X.mg "enumerate" = none) (h : Ev X W a σ G H (· = .lst L)) (hg : Gl X "enumerate" := by rfl) (hs : starEach [a] X.env = [(false, eval a X.env)] := by rfl) : EvI X W (.Tuple elts kk tpos) (.Call (.Name "enumerate" p) [a] [] pos) σ G H (L.zipIdx.map fun q => .tup [.int (q.2 : Nat), q.1]) := fun G1 H1 c R q =>
  semI_of (pi_enum hg hm (pa_cons pe_sem pa_nil hs) hs) (h G1 H1 c _ fun v d G2 H2 c2 e r => by
    subst e
    obtain ⟨p, vs, rfl, h, rs⟩ := r.lst_v
    exact ⟨p, vs, rfl, c2.ok.gh.l h, q _ G2 H2 c2 (itd_e h rs)⟩)
theorem ei_zip {elts : List Expr} {kk : Nat} {tpos : Pos} (hm : X.mg "zip" = none) (h : Ev X W a σ G H (· = .lst L)) (h' : Ev X W b σ G H (· = .lst M)) (hg : Gl X "zip" := by rfl) (hs : starEach [a, b] X.env = (false, eval a X.env) :: starEach [b] X.env := by rfl) (hs2 : starEach [b] X.env = (false, eval b X.env) :: starEach [] X.env := by rfl) (hpl : (backTo pos (starEach [b] X.env)).any (·.1) = false := by rfl) : EvI X W (.Tuple elts kk tpos) (.Call (.Name "zip" p) [a, b] [] pos) σ G H ((L.zip M).map fun q => .tup [q.1, q.2]) := fun G1 H1 c R q =>
  semI_of (pi_zip hg hm (pa_cons pe_sem (pa_cons pe_sem pa_nil hs2) hs) hs hpl) (h G1 H1 c _ fun v d G2 H2 c2 e r => h' G2 H2 (c.trans c2) _ fun v' d' G3 H3 c3 e' r' => by
    subst e; subst e'
    obtain ⟨p, vs, rfl, h, rs⟩ := (r.mono c3.gg).lst_v
    obtain ⟨p', vs', rfl, h', rs'⟩ := r'.lst_v
    exact ⟨p, p', vs, vs', rfl, c3.ok.gh.l h, c3.ok.gh.l h', q _ G3 H3 (c2.trans c3) (itd_z h rs h' rs')⟩)

/-! targets -/
theorem g_name {x : Str} {v : V} {Q : St → Hp → Prop} (i : Nat) (nd : X.N.Nodup) (h : Q (σ.set i (some v)) H) (hi : X.N[i]? = some x := by rfl) (hx : Loc X.env.scope x := by first | exact Or.inl rfl | exact Or.inr rfl) (hf : X.fn x = true ∨ X.env.scope.names.lookup x = some .local := by first | exact .inl rfl | exact .inr rfl) : semG X (.Name x p) v σ H Q :=
  semG_of (pg_name nd hi hx hf) h
/-- several names -/
inductive GNs (X : Cx) : List Expr → List Nat → Prop
  | nil : GNs X [] []
  | cons {x : Str} {p : Pos} {i : Nat} {es : List Expr} {is : List Nat} (hi : X.N[i]? = some x) (hx : Loc X.env.scope x) (hf : X.fn x = true ∨ X.env.scope.names.lookup x = some .local) (hs : (assignEach (.Name x p :: es) X.env).map (·.2) = assign (.Name x p) X.env :: (assignEach es X.env).map (·.2)) (r : GNs X es is) : GNs X (.Name x p :: es) (i :: is)
def setAll : St → List Nat → List V → St
  | σ, i :: is, v :: vs => setAll (σ.set i (some v)) is vs
  | σ, _, _ => σ
theorem GNs.go (nd : X.N.Nodup) : ∀ {es : List Expr} {is : List Nat}, GNs X es is → ∀ {vs : List V} {σ : St} {Q : St → Hp → Prop}, vs.length = is.length → Q (setAll σ is vs) H → ∃ t, PGs X es t ∧ t vs σ H Q
  | _, _, .nil, [], σ, Q, _, q => ⟨_, pgs_nil, rfl, q⟩
  | _, _, .cons hi hx hf hs r, v :: vs, σ, Q, e, q => by
    obtain ⟨t, h1, h2⟩ := r.go nd (vs := vs) (σ := σ.set _ (some v)) (Q := Q) (by simpa using e) q
    exact ⟨_, pgs_cons (pg_name nd hi hx hf) h1 hs, v, vs, rfl, h2⟩
theorem g_tup {kk : Nat} {v : V} {ds : List D} {Q : St → Hp → Prop} {is : List Nat} (nd : X.N.Nodup) (hc : X.calm = true) (k : Ok W G H) (r : Rp X.K X.mg G v (.tup ds)) (g : GNs X es is) (hl : ds.length = is.length) (h : ∀ vs, RpA X.K X.mg G vs ds → Q (setAll σ is vs) H)
    (hn : (assignEach es X.env).length = is.length := by rfl) (hst : (assignEach es X.env).findIdx? (·.1) = none := by rfl) : semG X (.Tuple es kk p) v σ H Q := by
  obtain ⟨a, vs, rfl, ht, rs⟩ := r.tup_v
  obtain ⟨t, h1, h2⟩ := g.go nd (vs := vs) (σ := σ) (Q := Q) (H := H) (by rw [rs.length]; exact hl) (h vs rs)
  exact semG_of (pg_tup hc h1 hn hst) ⟨a, vs, rfl, k.gh.t ht, by rw [rs.length]; exact hl, h2⟩

/-! ### for, while -/
theorem q_for {PL : List D → Prop} (S : Addr → Prop) (Pv : List D → Nat → St → Hp → Hp → Prop) (k : Ok W G H) (hi : EvIP X W tg it σ G H PL) (h0 : ∀ L G1 H1, Ch W N0 G H G1 H1 → PL L → Pv L 0 σ G1 H1)
    (hs : ∀ L i d σ1 G1 H1, PL L → L[i]? = some d → Ch W S G H G1 H1 → Pv L i σ1 G1 H1 → ∀ v G2 H2, Ch W N0 G1 H1 G2 H2 → Rp X.K X.mg G2 v d →
      semG X tg v σ1 H2 (fun σ3 H3 => semB X body { D0 with nx := fun σ4 H4 => ∃ G4, Ch W S G2 H2 G4 H4 ∧ Pv L (i + 1) σ4 G4 H4, ct := fun σ4 H4 => ∃ G4, Ch W S G2 H2 G4 H4 ∧ Pv L (i + 1) σ4 G4 H4, bk := semB X rest D0 } σ3 H3))
    (hd : ∀ L σ1 G1 H1, PL L → Ch W S G H G1 H1 → Pv L L.length σ1 G1 H1 → semB X rest D0 σ1 H1) (hc : X.calm = true := by rfl) (hp : PassesOwn (model X.prog X.w) X.A X.env X.xe := by exact PassesOwn.never) (hf : ∀ x, foldedSetIterable it X.env x = pure x := by intro _; rfl) : semB X (.For tg it body [] pos :: rest) D0 σ H := by
  refine q_cons (ps_for hp hc pi_sem pg_sem pss_sem hf) (hi G H (Ch.refl k) _ fun J L G1 H1 c1 pl I => ?_)
  refine ⟨fun i m σ' H' => m = L.length - i ∧ i ≤ L.length ∧ ∃ G', Ch W S G1 H1 G' H' ∧ Pv L i σ' G' H', ⟨L.length, by simp, Nat.zero_le _, G1, Ch.refl c1.ok, h0 L G1 H1 c1 pl⟩, ?_⟩
  rintro i m σ' H' ⟨rfl, hi, G', c', pv⟩
  by_cases hlt : i < L.length
  · refine .inr ⟨I.go i G' H' hlt c'.gg c'.ok, fun σ4 H4 => ∃ G4, Ch W S G1 H1 G4 H4 ∧ Pv L (i + 1) σ4 G4 H4, fun σ4 H4 ⟨G4, c4, p4⟩ => ⟨L.length - (i + 1), by omega, rfl, hlt, G4, c4, p4⟩, fun x H5 y => ?_⟩
    obtain ⟨G5, c5, r5⟩ := I.yld i L[i] G' H' x H5 (List.getElem?_eq_getElem hlt) c'.gg c'.ok y
    have z := hs L i L[i] σ' G' H' pl (List.getElem?_eq_getElem hlt) (c1.of0.trans c') pv x G5 H5 c5 r5
    have up : ∀ σ4 H4, (∃ G4, Ch W S G5 H5 G4 H4 ∧ Pv L (i + 1) σ4 G4 H4) → ∃ G4, Ch W S G1 H1 G4 H4 ∧ Pv L (i + 1) σ4 G4 H4 := fun σ4 H4 ⟨G4, c4, p4⟩ => ⟨G4, (c'.trans c5.of0).trans c4, p4⟩
    intro pins s u I' r'
    refine thn (z pins s u I' r') fun _ s6 ⟨σ6, H6, I6, q6⟩ => ⟨σ6, H6, I6, semB_mono q6 up (fun _ _ z => z) (fun _ _ z => z) up⟩
  · have e : i = L.length := by omega
    subst e
    exact .inl ⟨I.stop G' H' c'.gg c'.ok, hd L σ' G' H' pl (c1.of0.trans c') pv⟩
theorem q_while (S : Addr → Prop) (Pv : Nat → St → Hp → Hp → Prop) (k : Ok W G H) (h0 : ∃ m, Pv m σ G H)
    (hs : ∀ m σ1 G1 H1, Ch W S G H G1 H1 → Pv m σ1 G1 H1 → ∃ PB, EvT X W c σ1 G1 H1 PB ∧
      (PB true → ∀ G2 H2, Ch W N0 G1 H1 G2 H2 → semB X body { D0 with nx := fun σ4 H4 => ∃ m' G4, m' < m ∧ Ch W S G2 H2 G4 H4 ∧ Pv m' σ4 G4 H4, ct := fun σ4 H4 => ∃ m' G4, m' < m ∧ Ch W S G2 H2 G4 H4 ∧ Pv m' σ4 G4 H4, bk := semB X rest D0 } σ1 H2) ∧
      (PB false → ∀ G2 H2, Ch W N0 G1 H1 G2 H2 → semB X rest D0 σ1 H2)) (hp : PassesOwn (model X.prog X.w) X.A X.env X.xe := by exact PassesOwn.never) : semB X (.While c body [] pos :: rest) D0 σ H := by
  refine q_cons (ps_while hp pt_sem pss_sem) ⟨fun m σ' H' => ∃ G', Ch W S G H G' H' ∧ Pv m σ' G' H', let ⟨m, p⟩ := h0; ⟨m, G, Ch.refl k, p⟩, ?_⟩
  rintro m σ1 H1 ⟨G1, c1, p1⟩
  obtain ⟨PB, ht, hT, hF⟩ := hs m σ1 G1 H1 c1 p1
  refine ht G1 H1 (Ch.refl c1.ok) _ fun b G2 H2 c2 pb => ?_
  cases b with
  | false => exact hF pb G2 H2 c2
  | true =>
    refine ⟨fun σ4 H4 => ∃ m', m' < m ∧ ∃ G4, Ch W S G H G4 H4 ∧ Pv m' σ4 G4 H4, fun σ4 H4 ⟨m', l, z⟩ => ⟨m', l, z⟩, ?_⟩
    have up : ∀ σ4 H4, (∃ m' G4, m' < m ∧ Ch W S G2 H2 G4 H4 ∧ Pv m' σ4 G4 H4) → ∃ m', m' < m ∧ ∃ G4, Ch W S G H G4 H4 ∧ Pv m' σ4 G4 H4 := fun σ4 H4 ⟨m', G4, l, c4, p4⟩ => ⟨m', l, G4, (c1.trans c2.of0).trans c4, p4⟩
    exact semB_mono (hT pb G2 H2 c2) up (fun _ _ z => z) (fun _ _ z => z) up

/-! ### comprehensions -/
inductive All2 {α β : Type} (R : α → β → Prop) : List α → List β → Prop
  | nil : All2 R [] []
  | cons {a b as bs} : R a b → All2 R as bs → All2 R (a :: as) (b :: bs)
theorem All2.append {α β : Type} {R : α → β → Prop} : ∀ {as as' : List α} {bs bs' : List β}, All2 R as bs → All2 R as' bs' → All2 R (as ++ as') (bs ++ bs')
  | _, _, _, _, .nil, h => h
  | _, _, _, _, .cons r s, h => .cons r (s.append h)
theorem All2.map {α β : Type} {f : α → β} : ∀ {as : List α} {bs : List β}, All2 (fun a b => b = f a) as bs → bs = as.map f
  | _, _, .nil => rfl
  | _, _, .cons r s => by rw [r, s.map]; rfl
theorem All2.length {α β : Type} {R : α → β → Prop} : ∀ {as : List α} {bs : List β}, All2 R as bs → as.length = bs.length
  | _, _, .nil => rfl
  | _, _, .cons _ s => congrArg (· + 1) s.length
/-- the block of a comprehension -/
abbrev blkX (X : Cx) (scope : Scope) (s : Shared) (H : Hp) (C : Addr) (cl : List (Str × Addr)) (fp : List Addr) : Cx := X.blk s H scope (compEnvC scope cl C X.env) fp
def EvTs (X : Cx) (W : Wd) (ifs : List Expr) (σ : St) (G H : Hp) (P : Bool → Prop) : Prop := ∀ G1 H1, Ch W N0 G H G1 H1 → ∀ Q : Bool → Hp → Prop, (∀ b G2 H2, Ch W N0 G1 H1 G2 H2 → P b → Q b H2) → semTs X ifs σ H1 Q
theorem ets_nil : EvTs X W [] σ G H (· = true) := fun G1 H1 c Q q => semTs_of pts_nil (q true G1 H1 (Ch.refl c.ok) rfl)
theorem ets_one {PB : Bool → Prop} (h : EvT X W c σ G H PB) : EvTs X W [c] σ G H PB := fun G1 H1 c Q q => semTs_of (pts_one pt_sem) (h G1 H1 c Q q)
/-- one turn of a comprehension: d comes, kept or not, its elements -/
structure LcTurn (X : Cx) (W : Wd) (scope : Scope) (vs : List Nat) (tg elt : Expr) (ifs : List Expr) (σ : St) (keep : D → Bool) (E : D → D → Prop) (v : V) (d : D) (G1 H1 : Hp) : Prop where
  ex : ∃ σ2, wipe σ2 vs = wipe σ vs ∧ ∀ s H0 C cl fp, (∀ Q : St → Hp → Prop, Q σ2 H1 → semG (blkX X scope s H0 C cl fp) tg v (wipe σ vs) H1 Q) ∧ EvTs (blkX X scope s H0 C cl fp) W ifs σ2 G1 H1 (· = keep d) ∧ (keep d = true → Ev (blkX X scope s H0 C cl fp) W elt σ2 G1 H1 (E d))
theorem take_keep {L : List D} {i : Nat} {d : D} {keep : D → Bool} (h : L[i]? = some d) : (L.take (i + 1)).filter keep = (L.take i).filter keep ++ if keep d = true then [d] else [] := by
  rw [List.take_add_one, h, List.filter_append]
  congr 1
  show List.filter keep [d] = _
  rw [List.filter_cons]
  split <;> rfl
/-- the reading of a list comprehension -/
theorem lc_read {scope : Scope} {own : List (Str × Nat)} {PL : List D → Prop} {keep : D → Bool} {E : D → D → Prop} (hi : EvIP X W tg it σ G H PL) (hz : ∀ L, PL L → L.length ≤ 1000000)
    (ht : ∀ (L : List D) (i : Nat) (d : D) (v : V) (G1 H1 : Hp), PL L → L[i]? = some d → Ch W N0 G H G1 H1 → Rp X.K X.mg G1 v d → LcTurn X W scope (own.map (·.2)) tg elt ifs σ keep E v d G1 H1) (c : Ch W N0 G H G1 H1) (Q : VK)
    (q : ∀ p vs L ds G2 H2, Ch W N0 G1 H1 G2 H2 → H1 p = none → G2 p = none → ¬ W.M p → H2 p = some (.lst vs) → RpA X.K X.mg G2 vs ds → PL L → All2 E (L.filter keep) ds → Q (.ref p) H2) :
    tLc (semI X tg it) (fun v σ H Q => ∀ s H0 C cl fp, semG (blkX X scope s H0 C cl fp) tg v σ H Q) (fun σ H Q => ∀ s H0 C cl fp, semTs (blkX X scope s H0 C cl fp) ifs σ H Q) (fun σ H Q => ∀ s H0 C cl fp, semE (blkX X scope s H0 C cl fp) elt σ H Q) (own.map (·.2)) σ H1 Q := by
  refine hi G1 H1 c _ fun J L G2 H2 c2 pl I A hA => ?_
  have nA : ¬ W.M A := c2.ok.nm hA
  have gA : G2 A = none := c2.ok.gnone hA
  have c3 : Ch W N0 G2 H2 G2 (upd H2 A (.lst [])) := Ch.own c2.ok hA
  have hA1 : H1 A = none := by
    cases e : H1 A with
    | none => rfl
    | some o => exact absurd hA (c2.th A (by rw [e]; exact fun z => nomatch z))
  refine ⟨fun i m H' => m = L.length - i ∧ i ≤ L.length ∧ ∃ G' acc ds, Ch W N0 G2 H2 G' H' ∧ G' A = none ∧ H' A = some (.lst acc) ∧ RpA X.K X.mg G' acc ds ∧ All2 E ((L.take i).filter keep) ds,
    ⟨L.length, by simp, Nat.zero_le _, G2, [], [], c3, gA, upd_same, .nil, .nil⟩, ?_⟩
  rintro i m H' ⟨rfl, hi', G', acc, ds, c', g', h', ra, a2⟩
  by_cases hlt : i < L.length
  · have hL : L[i]? = some L[i] := List.getElem?_eq_getElem hlt
    refine .inr ⟨I.go i G' H' hlt c'.gg c'.ok, fun H4 => ∃ G4 acc ds, Ch W N0 G2 H2 G4 H4 ∧ G4 A = none ∧ H4 A = some (.lst acc) ∧ RpA X.K X.mg G4 acc ds ∧ All2 E ((L.take (i + 1)).filter keep) ds, fun H4 z => ⟨L.length - (i + 1), by omega, rfl, hlt, z⟩, fun x H5 y => ?_⟩
    obtain ⟨G5, c5, r5⟩ := I.yld i L[i] G' H' x H5 hL c'.gg c'.ok y
    have c25 : Ch W N0 G2 H2 G5 H5 := c'.trans c5
    obtain ⟨σ2, hw, ha⟩ := (ht L i L[i] x G5 H5 pl hL ((c.trans c2).trans c25) r5).ex
    intro s H0 C cl fp
    refine (ha s H0 C cl fp).1 _ ⟨hw, ?_⟩
    have hA5 : H5 A = some (.lst acc) := c5.hh A _ nA (fun z => z) h'
    have gA5 : G5 A = none := c5.fr A (by rw [h']; exact fun z => nomatch z) g'
    intro s H0 C cl fp
    refine (ha s H0 C cl fp).2.1 G5 H5 (Ch.refl c25.ok) _ fun b G6 H6 c6 eb => ?_
    have hA6 : H6 A = some (.lst acc) := c6.hh A _ nA (fun z => z) hA5
    have gA6 : G6 A = none := c6.fr A (by rw [hA5]; exact fun z => nomatch z) gA5
    have tk := take_keep (keep := keep) hL
    cases b with
    | false =>
      show ∃ G4 acc ds, _
      refine ⟨G6, acc, ds, c25.trans c6, gA6, hA6, ra.mono (c5.trans c6).gg, ?_⟩
      rw [tk, if_neg (by rw [← eb]; decide), List.append_nil]
      exact a2
    | true =>
      show ∀ s H0 C cl fp, _
      intro s H0 C cl fp
      refine (ha s H0 C cl fp).2.2 eb.symm G6 H6 c6 _ fun v d G7 H7 c7 pe re => ?_
      have hA7 : H7 A = some (.lst acc) := c7.hh A _ nA (fun z => z) hA6
      have gA7 : G7 A = none := c7.fr A (by rw [hA6]; exact fun z => nomatch z) gA6
      have c27 : Ch W N0 G2 H2 G7 H7 := (c25.trans c6).trans c7
      have cw : Ch W (fun a => a = A) G7 H7 G7 (upd H7 A (.lst (acc ++ [v]))) := Ch.write c27.ok gA7 nA rfl
      have hlen : acc.length ≤ i := by
        rw [ra.length, ← a2.length]
        exact Nat.le_trans (List.length_filter_le _ _) (by rw [List.length_take]; omega)
      refine ⟨acc, hA7, by rw [sizeLine_eq]; have := hz L pl; omega, G7, acc ++ [v], ds ++ [d], c27.loc cw (fun x e => .inr (by rw [e]; exact hA)), gA7, upd_same, (ra.mono ((c5.trans c6).trans c7).gg).append (.cons re .nil), ?_⟩
      rw [tk, if_pos eb.symm]
      exact a2.append (.cons pe .nil)
  · have e : i = L.length := by omega
    subst e
    rw [List.take_length] at a2
    exact .inl ⟨I.stop G' H' c'.gg c'.ok, q A acc L ds G' H' (c2.trans c') hA1 g' nA h' ra pl a2⟩
variable {elt : Expr}
theorem en_lcP {scope : Scope} {PL : List D → Prop} {keep : D → Bool} {E : D → D → Prop} (own : List (Str × Nat)) (nd : X.N.Nodup) (ok : BlkOk X.N X.env.scope scope own) (hi : EvIP X W tg it σ G H PL) (hz : ∀ L, PL L → L.length ≤ 1000000)
    (ht : ∀ (L : List D) (i : Nat) (d : D) (v : V) (G1 H1 : Hp), PL L → L[i]? = some d → Ch W N0 G H G1 H1 → Rp X.K X.mg G1 v d → LcTurn X W scope (own.map (·.2)) tg elt ifs σ keep E v d G1 H1) (hc : X.calm = true := by rfl) (hs : ∀ x, foldedSetIterable it X.env x = pure x := by intro _; rfl) :
    EvN X W (.ListComp elt [⟨tg, it, ifs, 0⟩] scope pos) σ G H (fun ds => ∃ L, PL L ∧ All2 E (L.filter keep) ds) := fun G1 H1 c Q q =>
  semE_of (pe_lc (g := fun v σ H Q => ∀ s H0 C cl fp, semG (blkX X scope s H0 C cl fp) tg v σ H Q) (tt := fun σ H Q => ∀ s H0 C cl fp, semTs (blkX X scope s H0 C cl fp) ifs σ H Q) (te := fun σ H Q => ∀ s H0 C cl fp, semE (blkX X scope s H0 C cl fp) elt σ H Q) hc nd pi_sem ok
    (fun s H0 C cl fp => ⟨fun pins s' σ H v u Q I r h => h s H0 C cl fp pins s' u I r⟩) (fun s H0 C cl fp => ⟨fun pins s' σ H Q I h => h s H0 C cl fp pins s' I⟩) (fun s H0 C cl fp => ⟨fun pins s' σ H Q I h => h s H0 C cl fp pins s' I⟩) hs)
    (lc_read hi hz ht c Q fun p vs L ds G2 H2 c2 h1 h2 h3 h4 h5 pl a2 => q p vs ds G2 H2 c2 h1 h2 h3 h4 h5 ⟨L, pl, a2⟩)
/-- [f(x) for x in it if keep(x)] -/
theorem en_lc {scope : Scope} {keep : D → Bool} {f : D → D} (own : List (Str × Nat)) (nd : X.N.Nodup) (ok : BlkOk X.N X.env.scope scope own) (hi : EvI X W tg it σ G H L) (hz : L.length ≤ 1000000)
    (ht : ∀ (i : Nat) (d : D) (v : V) (G1 H1 : Hp), L[i]? = some d → Ch W N0 G H G1 H1 → Rp X.K X.mg G1 v d → LcTurn X W scope (own.map (·.2)) tg elt ifs σ keep (fun d y => y = f d) v d G1 H1) (hc : X.calm = true := by rfl) (hs : ∀ x, foldedSetIterable it X.env x = pure x := by intro _; rfl) :
    EvN X W (.ListComp elt [⟨tg, it, ifs, 0⟩] scope pos) σ G H (· = (L.filter keep).map f) :=
  (en_lcP (keep := keep) (E := fun d y => y = f d) own nd ok hi.toP (fun _ e => by rw [e]; exact hz) (fun L' i d v G1 H1 e => by subst e; exact ht i d v G1 H1) hc hs).imp fun ds ⟨_, e, a2⟩ => by subst e; exact a2.map
/-- x = [..] on one line, x a local -/
theorem q_asgLcP {x : Str} {p' spos : Pos} {scope : Scope} {PL : List D → Prop} {keep : D → Bool} {E : D → D → Prop} (i : Nat) (own : List (Str × Nat)) (nd : X.N.Nodup) (k : Ok W G H) (ok : BlkOk X.N X.env.scope scope own) (hi : EvIP X W tg it σ G H PL) (hz : ∀ L, PL L → L.length ≤ 1000000)
    (ht : ∀ (L : List D) (i : Nat) (d : D) (v : V) (G1 H1 : Hp), PL L → L[i]? = some d → Ch W N0 G H G1 H1 → Rp X.K X.mg G1 v d → LcTurn X W scope (own.map (·.2)) tg elt ifs σ keep E v d G1 H1)
    (cont : ∀ p L ds G1 H1, Ch W N0 G H G1 H1 → H p = none → OwnL X.K X.mg W G1 H1 p ds → PL L → All2 E (L.filter keep) ds → semB X rest D0 (σ.set i (some (.ref p))) H1) (hsw : swapsWith (.ListComp elt [⟨tg, it, ifs, 0⟩] scope pos) (some (.Name x p')) spos.line X.env = pure true)
    (hN : X.N[i]? = some x := by rfl) (hx : X.env.scope.names.lookup x = some .local := by rfl) (hc : X.calm = true := by rfl) (hs : ∀ x, foldedSetIterable it X.env x = pure x := by intro _; rfl) :
    semB X (.Assign [.Name x p'] (.ListComp elt [⟨tg, it, ifs, 0⟩] scope pos) spos :: rest) D0 σ H :=
  q_cons (ps_setLc (g := fun v σ H Q => ∀ s H0 C cl fp, semG (blkX X scope s H0 C cl fp) tg v σ H Q) (tt := fun σ H Q => ∀ s H0 C cl fp, semTs (blkX X scope s H0 C cl fp) ifs σ H Q) (te := fun σ H Q => ∀ s H0 C cl fp, semE (blkX X scope s H0 C cl fp) elt σ H Q) hc nd hN hx hsw pi_sem ok
    (fun s H0 C cl fp => ⟨fun pins s' σ H v u Q I r h => h s H0 C cl fp pins s' u I r⟩) (fun s H0 C cl fp => ⟨fun pins s' σ H Q I h => h s H0 C cl fp pins s' I⟩) (fun s H0 C cl fp => ⟨fun pins s' σ H Q I h => h s H0 C cl fp pins s' I⟩) hs)
    (lc_read hi hz ht (Ch.refl k) _ fun p vs L ds G2 H2 c2 h1 h2 h3 h4 h5 pl a2 => cont p L ds G2 H2 c2 h1 ⟨h2, h3, vs, h4, h5⟩ pl a2)
theorem q_asgLc {x : Str} {p' spos : Pos} {scope : Scope} {keep : D → Bool} {f : D → D} (i : Nat) (own : List (Str × Nat)) (nd : X.N.Nodup) (k : Ok W G H) (ok : BlkOk X.N X.env.scope scope own) (hi : EvI X W tg it σ G H L) (hz : L.length ≤ 1000000)
    (ht : ∀ (i : Nat) (d : D) (v : V) (G1 H1 : Hp), L[i]? = some d → Ch W N0 G H G1 H1 → Rp X.K X.mg G1 v d → LcTurn X W scope (own.map (·.2)) tg elt ifs σ keep (fun d y => y = f d) v d G1 H1)
    (cont : ∀ p G1 H1, Ch W N0 G H G1 H1 → H p = none → OwnL X.K X.mg W G1 H1 p ((L.filter keep).map f) → semB X rest D0 (σ.set i (some (.ref p))) H1) (hsw : swapsWith (.ListComp elt [⟨tg, it, ifs, 0⟩] scope pos) (some (.Name x p')) spos.line X.env = pure true)
    (hN : X.N[i]? = some x := by rfl) (hx : X.env.scope.names.lookup x = some .local := by rfl) (hc : X.calm = true := by rfl) (hs : ∀ x, foldedSetIterable it X.env x = pure x := by intro _; rfl) :
    semB X (.Assign [.Name x p'] (.ListComp elt [⟨tg, it, ifs, 0⟩] scope pos) spos :: rest) D0 σ H :=
  q_asgLcP (keep := keep) (E := fun d y => y = f d) i own nd k ok hi.toP (fun _ e => by rw [e]; exact hz) (fun L' i d v G1 H1 e => by subst e; exact ht i d v G1 H1) (fun p L' ds G1 H1 c h o e a2 => by subst e; have a3 := a2.map; rw [a3] at o; exact cont p G1 H1 c h o) hsw hN hx hc hs
end
end GX
set_option Elab.async false
set_option linter.all false
set_option maxRecDepth 100000
set_option maxHeartbeats 1000000
/-! GX5: chains of comparisons, methods of lists, defs by their promises, == of data, repr, len of an instance. -/
namespace GX
open PySem L2
/-- the call's few arguments bear no star -/
abbrev Few (X : Cx) (es : List Expr) (q : Pos) : Prop :=
  ((backTo q (starEach es X.env)).all (fun z => !z.1) && (backToKw q (keywordEach [] X.env)).all (fun z => z.1.isSome) &&
    decide (es.length + ([] : List Keyword).length + (if ([] : List Keyword).isEmpty then 0 else 1) < 30)) = true
section
variable {X : Cx} {W : Wd} {e a b c it tg : Expr} {es ifs : List Expr} {σ : St} {G H G1 H1 : Hp} {P P1 P2 : D → Prop} {pos p pos2 : Pos} {l : Addr} {ds L M : List D} {D0 : Ends} {rest body orelse : List Stmt} {st : Stmt}
/-! ### i <= j <= k -/
theorem et_chain {op op' : CmpOp} {g g' : Int → Int → Bool} {i j k : Int} (ho : OpR X (compareOp op) (rI0 fun i j => .bl (g i j))) (ho' : OpR X (compareOp op') (rI0 fun i j => .bl (g' i j))) (ha : Ev X W a σ G H (· = .int i)) (hb : Ev X W b σ G H (· = .int j)) (hc : Ev X W c σ G H (· = .int k))
    (hm : lastMarks [op, op'] [b, c] = false := by with_unfolding_all rfl) : EvT X W (.Compare a [op, op'] [b, c] pos) σ G H (· = (g i j && g' j k)) := fun G1 H1 c1 Q q =>
  semT_of (pt_chain ho ho' pe_sem pe_sem pe_sem hm) (ha G1 H1 c1 _ fun x d1 G2 H2 c2 e1 r1 => hb G2 H2 (c1.trans c2) _ fun y d2 G3 H3 c3 e2 r2 => by
    subst e1; subst e2
    refine ⟨i, j, r1.int_v, r2.int_v, g i j, rfl, ?_⟩
    cases hg : g i j with
    | true =>
      show semE X c σ H3 _
      refine hc G3 H3 ((c1.trans c2).trans c3) _ fun z d3 G4 H4 c4 e3 r3 => ?_
      subst e3
      refine ⟨j, k, r2.int_v, r3.int_v, _, rfl, q _ G4 H4 ((c2.trans c3).trans c4) ?_⟩
      rw [hg]; rfl
    | false => exact ⟨false, rfl, q _ G3 H3 (c2.trans c3) (by rw [hg]; rfl)⟩)
theorem ev_chain {op op' : CmpOp} {g g' : Int → Int → Bool} {i j k : Int} (ho : OpR X (compareOp op) (rI0 fun i j => .bl (g i j))) (ho' : OpR X (compareOp op') (rI0 fun i j => .bl (g' i j))) (ha : Ev X W a σ G H (· = .int i)) (hb : Ev X W b σ G H (· = .int j)) (hc : Ev X W c σ G H (· = .int k))
    (hm : lastMarks [op, op'] [b, c] = false := by with_unfolding_all rfl) : Ev X W (.Compare a [op, op'] [b, c] pos) σ G H (· = .bl (g i j && g' j k)) := fun G1 H1 c1 Q q =>
  semE_of (pe_chain ho ho' pe_sem pe_sem pe_sem hm) (ha G1 H1 c1 _ fun x d1 G2 H2 c2 e1 r1 => hb G2 H2 (c1.trans c2) _ fun y d2 G3 H3 c3 e2 r2 => by
    subst e1; subst e2
    refine ⟨i, j, r1.int_v, r2.int_v, g i j, rfl, ?_⟩
    cases hg : g i j with
    | true =>
      show semE X c σ H3 _
      refine hc G3 H3 ((c1.trans c2).trans c3) _ fun z d3 G4 H4 c4 e3 r3 => ?_
      subst e3
      exact ⟨j, k, r2.int_v, r3.int_v, q _ _ G4 H4 ((c2.trans c3).trans c4) (by rw [hg]; rfl) (.bl _)⟩
    | false => exact q _ _ G3 H3 (c2.trans c3) (by rw [hg]; rfl) (.bl _))
theorem et_lele {i j k : Int} (ha : Ev X W a σ G H (· = .int i)) (hb : Ev X W b σ G H (· = .int j)) (hc : Ev X W c σ G H (· = .int k)) (hm : lastMarks [.LtE, .LtE] [b, c] = false := by with_unfolding_all rfl) : EvT X W (.Compare a [.LtE, .LtE] [b, c] pos) σ G H (· = (decide (i ≤ j) && decide (j ≤ k))) := et_chain op_le op_le ha hb hc hm
theorem ev_lele {i j k : Int} (ha : Ev X W a σ G H (· = .int i)) (hb : Ev X W b σ G H (· = .int j)) (hc : Ev X W c σ G H (· = .int k)) (hm : lastMarks [.LtE, .LtE] [b, c] = false := by with_unfolding_all rfl) : Ev X W (.Compare a [.LtE, .LtE] [b, c] pos) σ G H (· = .bl (decide (i ≤ j) && decide (j ≤ k))) := ev_chain op_le op_le ha hb hc hm
theorem et_lelt {i j k : Int} (ha : Ev X W a σ G H (· = .int i)) (hb : Ev X W b σ G H (· = .int j)) (hc : Ev X W c σ G H (· = .int k)) (hm : lastMarks [.LtE, .Lt] [b, c] = false := by with_unfolding_all rfl) : EvT X W (.Compare a [.LtE, .Lt] [b, c] pos) σ G H (· = (decide (i ≤ j) && decide (j < k))) := et_chain op_le op_lt ha hb hc hm
theorem ev_lelt {i j k : Int} (ha : Ev X W a σ G H (· = .int i)) (hb : Ev X W b σ G H (· = .int j)) (hc : Ev X W c σ G H (· = .int k)) (hm : lastMarks [.LtE, .Lt] [b, c] = false := by with_unfolding_all rfl) : Ev X W (.Compare a [.LtE, .Lt] [b, c] pos) σ G H (· = .bl (decide (i ≤ j) && decide (j < k))) := ev_chain op_le op_lt ha hb hc hm
theorem ev_neg {i : Int} (ha : Ev X W a σ G H (· = .int i)) : Ev X W (.UnaryOp .USub a pos) σ G H (· = .int (-i)) := fun G1 H1 c Q q =>
  semE_of (pe_un un_neg pe_sem) (ha G1 H1 c _ fun v d G2 H2 c2 e r => by
    subst e
    exact ⟨i, r.int_v, q _ _ G2 H2 c2 rfl (.int _)⟩)

/-! ### statements by what their expressions do -/
theorem q_asgE {x : Str} {p' : Pos} (i : Nat) (nd : X.N.Nodup) (h : semE X e σ H fun v H1 => semB X rest D0 (σ.set i (some v)) H1) (hi : X.N[i]? = some x := by rfl) (hx : Loc X.env.scope x := by first | exact Or.inl rfl | exact Or.inr rfl)
    (hs : swapsWith e (some (.Name x p')) pos.line X.env = pure false := by rfl) (hf : X.fn x = true ∨ X.env.scope.names.lookup x = some .local := by first | exact .inl rfl | exact .inr rfl) : semB X (.Assign [.Name x p'] e pos :: rest) D0 σ H :=
  q_cons (ps_set nd hi hx pe_sem hs hf) h
theorem q_retE (h : semE X e σ H D0.rt) : semB X (.Return (some e) pos :: rest) D0 σ H := q_cons (ps_ret pe_sem) h
theorem q_dropE (h : semE X e σ H fun _ H1 => semB X rest D0 σ H1) (hs : swapsWith e none pos.line X.env = pure false := by rfl) : semB X (.Expr e pos :: rest) D0 σ H := q_cons (ps_expr pe_sem hs) h
/-- a, b, .. = e -/
theorem q_asgT {kk : Nat} (nd : X.N.Nodup) (is : List Nat) (k : Ok W G H) (h : Ev X W e σ G H P) (g : GNs X es is) (hl : ∀ d, P d → ∃ ds, d = .tup ds ∧ ds.length = is.length) (cont : ∀ vs ds G1 H1, Ch W N0 G H G1 H1 → P (.tup ds) → RpA X.K X.mg G1 vs ds → semB X rest D0 (setAll σ is vs) H1) (hc : X.calm = true := by rfl)
    (hs : swapsWithSole [.Tuple es kk p] e pos.line X.env = pure false := by rfl) (hw : swappedStores [.Tuple es kk p] e X.env = pure none := by rfl) (h1 : (assignEach [.Tuple es kk p] X.env).map (·.2) = [assign (.Tuple es kk p) X.env] := by rfl)
    (hn : (assignEach es X.env).length = is.length := by rfl) (hst : (assignEach es X.env).findIdx? (·.1) = none := by rfl) : semB X (.Assign [.Tuple es kk p] e pos :: rest) D0 σ H :=
  q_cons (ps_asg pe_sem pg_sem hs hw h1) (h G H (Ch.refl k) _ fun v d G1 H1 c pd r => by
    obtain ⟨ds, e, hl'⟩ := hl d pd
    subst e
    exact g_tup nd hc c.ok r g hl' (fun vs rs => cont vs ds G1 H1 c pd rs) hn hst)
/-- a, b = x, y: both told first, then stored (plain locals) -/
theorem q_par {x y : Str} {px py pt pt2 : Pos} {kt k2 : Nat} (i j : Nat) (nd : X.N.Nodup) (k : Ok W G H) (ha : Ev X W a σ G H P1) (hb : Ev X W b σ G H P2) (cont : ∀ v w d e G1 H1, Ch W N0 G H G1 H1 → P1 d → P2 e → Rp X.K X.mg G1 v d → Rp X.K X.mg G1 w e → semB X rest D0 ((σ.set i (some v)).set j (some w)) H1)
    (hij : i ≠ j := by decide) (hc : X.calm = true := by rfl) (hi : X.N[i]? = some x := by rfl) (hj : X.N[j]? = some y := by rfl) (hx : X.env.scope.names.lookup x = some .local := by rfl) (hy : X.env.scope.names.lookup y = some .local := by rfl)
    (hw : swappedStores [.Tuple [.Name x px, .Name y py] kt pt] (.Tuple [a, b] k2 pt2) X.env = pure (some [x, y]) := by rfl) (hs : swapsWithSole [.Tuple [.Name x px, .Name y py] kt pt] (.Tuple [a, b] k2 pt2) pos.line X.env = pure false := by rfl)
    (he : starEach [a, b] X.env = (false, eval a X.env) :: starEach [b] X.env := by rfl) (he2 : starEach [b] X.env = (false, eval b X.env) :: starEach [] X.env := by rfl) : semB X (.Assign [.Tuple [.Name x px, .Name y py] kt pt] (.Tuple [a, b] k2 pt2) pos :: rest) D0 σ H :=
  q_cons (ps_par hc nd hi hj hij hx hy (pa_cons pe_sem (pa_cons pe_sem pa_nil he2) he) hw hs) (ha G H (Ch.refl k) _ fun v d G1 H1 c p1 r1 => hb G1 H1 c _ fun w e G2 H2 c2 p2 r2 => ⟨v, w, rfl, cont v w d e G2 H2 (c.trans c2) p1 p2 (r1.mono c2.gg) r2⟩)
/-- .. as raw readings -/
theorem q_parE {x y : Str} {px py pt pt2 : Pos} {kt k2 : Nat} (i j : Nat) (nd : X.N.Nodup) (h : semE X a σ H fun v H1 => semE X b σ H1 fun w H2 => semB X rest D0 ((σ.set i (some v)).set j (some w)) H2)
    (hij : i ≠ j := by decide) (hc : X.calm = true := by rfl) (hi : X.N[i]? = some x := by rfl) (hj : X.N[j]? = some y := by rfl) (hx : X.env.scope.names.lookup x = some .local := by rfl) (hy : X.env.scope.names.lookup y = some .local := by rfl)
    (hw : swappedStores [.Tuple [.Name x px, .Name y py] kt pt] (.Tuple [a, b] k2 pt2) X.env = pure (some [x, y]) := by rfl) (hs : swapsWithSole [.Tuple [.Name x px, .Name y py] kt pt] (.Tuple [a, b] k2 pt2) pos.line X.env = pure false := by rfl)
    (he : starEach [a, b] X.env = (false, eval a X.env) :: starEach [b] X.env := by rfl) (he2 : starEach [b] X.env = (false, eval b X.env) :: starEach [] X.env := by rfl) : semB X (.Assign [.Tuple [.Name x px, .Name y py] kt pt] (.Tuple [a, b] k2 pt2) pos :: rest) D0 σ H :=
  q_cons (ps_par hc nd hi hj hij hx hy (pa_cons pe_sem (pa_cons pe_sem pa_nil he2) he) hw hs) (fun pins s I => thn (h pins s I) fun u s' ⟨v, H', I', r, q⟩ => ⟨v, H', I', r, fun pins s I => thn (q pins s I) fun u s' ⟨w, H', I', r, q⟩ => ⟨w, H', I', r, v, w, rfl, q⟩⟩)

/-! ### methods of one's own list -/
/-- l.append(e) -/
theorem q_app {x : Str} {i : Nat} {apos : Pos} (k : Ok W G H) (o : OwnL X.K X.mg W G H l ds) (hs : σ[i]? = some (some (.ref l)) := by rfl) (h : Ev X W e σ G H P) (hz : ds.length < 10000000) (cont : ∀ d G1 H1, Ch W (fun a => a = l) G H G1 H1 → P d → OwnL X.K X.mg W G1 H1 l (ds ++ [d]) → semB X rest D0 σ H1)
    (hN : X.N[i]? = some x := by rfl) (hv : Vis X.env.scope x := by first | exact Or.inl rfl | exact Or.inr (Or.inl rfl) | exact Or.inr (Or.inr rfl)) (hd : (x == ("__debug__" : Str)) = false := by decide) (hcd : (x == ("__classdict__" : Str)) = false := by decide)
    (he : starEach [e] X.env = (false, eval e X.env) :: starEach [] X.env := by rfl) (hfw : Few X [e] pos2 := by rfl) (hli : (apos.endLine == pos2.line) = true := by rfl) (hsw : swapsWith (.Call (.Attribute (.Name x p) "append" apos) [e] [] pos2) none pos.line X.env = pure false := by rfl) : semB X (.Expr (.Call (.Attribute (.Name x p) "append" apos) [e] [] pos2) pos :: rest) D0 σ H := by
  obtain ⟨vs, h1, h2⟩ := o.ex
  refine q_dropE (semE_of (pe_bm PySem.F.plainAttrs_list PySem.F.slot_list_append PySem.F.type_list_append mt_append pe_sem (pa_cons pe_sem pa_nil he) rfl hfw hli he rfl) (semE_v i hs ?_ hN hv hd hcd)) hsw
  refine ⟨.inl ⟨rfl, vs, SqL.of h1⟩, h G H (Ch.refl k) _ fun v d G1 H1 c pd r => ?_⟩
  have h1' := c.hh l _ o.m (fun z => z) h1
  refine ⟨l, vs, v, rfl, rfl, h1', by rw [h2.length, sizeLine_eq]; omega, ?_⟩
  have cw : Ch W (fun a => a = l) G1 H1 G1 (upd H1 l (.lst (vs ++ [v]))) := Ch.write c.ok (c.fr l o.tr o.g) o.m rfl
  exact cont d _ _ (c.of0.trans cw) pd ⟨c.fr l o.tr o.g, o.m, _, upd_same, (h2.mono c.gg).append (.cons r .nil)⟩
/-- l.append(e), e by what it does -/
theorem q_appE {x : Str} {i : Nat} {apos : Pos} {vs : List V} (hl : H l = some (.lst vs)) (hs : σ[i]? = some (some (.ref l)) := by rfl) (h : semE X e σ H fun v H1 => ∃ vs, H1 l = some (.lst vs) ∧ vs.length < 10000000 ∧ semB X rest D0 σ (upd H1 l (.lst (vs ++ [v]))))
    (hN : X.N[i]? = some x := by rfl) (hv : Vis X.env.scope x := by first | exact Or.inl rfl | exact Or.inr (Or.inl rfl) | exact Or.inr (Or.inr rfl)) (hd : (x == ("__debug__" : Str)) = false := by decide) (hcd : (x == ("__classdict__" : Str)) = false := by decide)
    (he : starEach [e] X.env = (false, eval e X.env) :: starEach [] X.env := by rfl) (hfw : Few X [e] pos2 := by rfl) (hli : (apos.endLine == pos2.line) = true := by rfl) (hsw : swapsWith (.Call (.Attribute (.Name x p) "append" apos) [e] [] pos2) none pos.line X.env = pure false := by rfl) : semB X (.Expr (.Call (.Attribute (.Name x p) "append" apos) [e] [] pos2) pos :: rest) D0 σ H := by
  refine q_dropE (semE_of (pe_bm PySem.F.plainAttrs_list PySem.F.slot_list_append PySem.F.type_list_append mt_append pe_sem (pa_cons pe_sem pa_nil he) rfl hfw hli he rfl) (semE_v i hs ?_ hN hv hd hcd)) hsw
  refine ⟨.inl ⟨rfl, vs, SqL.of hl⟩, fun pins s I => thn (h pins s I) fun u s' ⟨v, H', I', r, vs', h1, h2, q⟩ => ⟨v, H', I', r, l, vs', v, rfl, rfl, h1, by rw [sizeLine_eq]; omega, q⟩⟩
/-- l.pop() -/
theorem semE_pop {x : Str} {i : Nat} {apos : Pos} {d : D} {Q : VK} (k : Ok W G H) (o : OwnL X.K X.mg W G H l (ds ++ [d])) (hs : σ[i]? = some (some (.ref l)) := by rfl) (cont : ∀ v H1, Ch W (fun a => a = l) G H G H1 → Rp X.K X.mg G v d → OwnL X.K X.mg W G H1 l ds → Q v H1)
    (hN : X.N[i]? = some x := by rfl) (hv : Vis X.env.scope x := by first | exact Or.inl rfl | exact Or.inr (Or.inl rfl) | exact Or.inr (Or.inr rfl)) (hd : (x == ("__debug__" : Str)) = false := by decide) (hcd : (x == ("__classdict__" : Str)) = false := by decide) (hli : (apos.endLine == pos.line) = true := by rfl) : semE X (.Call (.Attribute (.Name x p) "pop" apos) [] [] pos) σ H Q := by
  obtain ⟨vs, h1, h2⟩ := o.ex
  refine semE_of (pe_bm0 PySem.F.plainAttrs_list PySem.F.slot_list_pop PySem.F.type_list_pop mt_pop pe_sem rfl hli) (semE_v i hs ?_ hN hv hd hcd)
  obtain ⟨v, hv1, rv⟩ := h2.get (i := ds.length) (d := d) (by simp)
  have hlen : vs.length = ds.length + 1 := by rw [h2.length]; simp
  refine ⟨.inl ⟨rfl, vs, SqL.of h1⟩, l, vs, v, rfl, rfl, h1, by rw [hlen]; exact hv1, cont v _ (Ch.write k o.g o.m rfl) rv ⟨o.g, o.m, _, upd_same, ?_⟩⟩
  have := h2.dropLast
  rw [List.dropLast_concat] at this
  exact this
/-- l.pop(i) -/
theorem semE_popAt {x : Str} {i : Nat} {apos : Pos} {Q : VK} {PI' : Nat → Prop} (o : OwnL X.K X.mg W G H l ds) (hz : ds.length < 10000000) (hs : σ[i]? = some (some (.ref l)) := by rfl) (h : Ev X W a σ G H (fun d => ∃ j : Nat, d = .int j ∧ j < ds.length ∧ PI' j)) (k : Ok W G H)
    (cont : ∀ v j d G1 H1, Ch W (fun a => a = l) G H G1 H1 → PI' j → ds[j]? = some d → Rp X.K X.mg G1 v d → OwnL X.K X.mg W G1 H1 l (ds.eraseIdx j) → Q v H1)
    (hN : X.N[i]? = some x := by rfl) (hv : Vis X.env.scope x := by first | exact Or.inl rfl | exact Or.inr (Or.inl rfl) | exact Or.inr (Or.inr rfl)) (hd : (x == ("__debug__" : Str)) = false := by decide) (hcd : (x == ("__classdict__" : Str)) = false := by decide) (he : starEach [a] X.env = (false, eval a X.env) :: starEach [] X.env := by rfl) (hfw : Few X [a] pos := by rfl) (hli : (apos.endLine == pos.line) = true := by rfl) : semE X (.Call (.Attribute (.Name x p) "pop" apos) [a] [] pos) σ H Q := by
  obtain ⟨vs, h1, h2⟩ := o.ex
  refine semE_of (pe_bm PySem.F.plainAttrs_list PySem.F.slot_list_pop PySem.F.type_list_pop mt_popAt pe_sem (pa_cons pe_sem pa_nil he) rfl hfw hli he rfl) (semE_v i hs ?_ hN hv hd hcd)
  refine ⟨.inl ⟨rfl, vs, SqL.of h1⟩, h G H (Ch.refl k) _ fun v d G1 H1 c ⟨j, e, hj, pj⟩ r => ?_⟩
  subst e
  obtain ⟨d, hd'⟩ : ∃ d, ds[j]? = some d := ⟨ds[j], List.getElem?_eq_getElem hj⟩
  obtain ⟨y, hy, ry⟩ := h2.get hd'
  have h1' := c.hh l _ o.m (fun z => z) h1
  refine ⟨l, vs, j, j, y, rfl, by rw [r.int_v], h1', by omega, by omega, ?_, hy, ?_⟩
  · have hj2 : j < vs.length := by rw [h2.length]; exact hj
    exact (ixN_seq (n := vs.length) (i := (j : Int)) (j := j) (by simp [ixN, hj2])).1
  · have cw : Ch W (fun a => a = l) G1 H1 G1 (upd H1 l (.lst (vs.eraseIdx j))) := Ch.write c.ok (c.fr l o.tr o.g) o.m rfl
    exact cont y j d _ _ (c.of0.trans cw) pj hd' (ry.mono c.gg) ⟨c.fr l o.tr o.g, o.m, _, upd_same, (h2.mono c.gg).eraseIdx j⟩
/-- l.extend(m), m data -/
theorem q_ext {x : Str} {i : Nat} {apos : Pos} {ds2 : List D} (k : Ok W G H) (o : OwnL X.K X.mg W G H l ds) (hs : σ[i]? = some (some (.ref l)) := by rfl) (h : EvN X W e σ G H (· = ds2)) (hz : ds.length + ds2.length < 10000000) (cont : ∀ G1 H1, Ch W (fun a => a = l) G H G1 H1 → OwnL X.K X.mg W G1 H1 l (ds ++ ds2) → semB X rest D0 σ H1)
    (hN : X.N[i]? = some x := by rfl) (hv : Vis X.env.scope x := by first | exact Or.inl rfl | exact Or.inr (Or.inl rfl) | exact Or.inr (Or.inr rfl)) (hd : (x == ("__debug__" : Str)) = false := by decide) (hcd : (x == ("__classdict__" : Str)) = false := by decide)
    (he : starEach [e] X.env = (false, eval e X.env) :: starEach [] X.env := by rfl) (hfw : Few X [e] pos2 := by rfl) (hli : (apos.endLine == pos2.line) = true := by rfl) (hsw : swapsWith (.Call (.Attribute (.Name x p) "extend" apos) [e] [] pos2) none pos.line X.env = pure false := by rfl) : semB X (.Expr (.Call (.Attribute (.Name x p) "extend" apos) [e] [] pos2) pos :: rest) D0 σ H := by
  obtain ⟨vs, h1, h2⟩ := o.ex
  refine q_dropE (semE_of (pe_bm PySem.F.plainAttrs_list PySem.F.slot_list_extend PySem.F.type_list_extend mt_extend pe_sem (pa_cons pe_sem pa_nil he) rfl hfw hli he rfl) (semE_v i hs ?_ hN hv hd hcd)) hsw
  refine ⟨.inl ⟨rfl, vs, SqL.of h1⟩, h G H (Ch.refl k) _ fun q ws es G1 H1 c n1 n2 n3 n4 n5 n6 => ?_⟩
  subst n6
  have h1' := c.hh l _ o.m (fun z => z) h1
  refine ⟨l, q, vs, ws, rfl, rfl, h1', n4, by rw [h2.length, n5.length, sizeLine_eq]; omega, ?_⟩
  have cw : Ch W (fun a => a = l) G1 H1 G1 (upd H1 l (.lst (vs ++ ws))) := Ch.write c.ok (c.fr l o.tr o.g) o.m rfl
  exact cont _ _ (c.of0.trans cw) ⟨c.fr l o.tr o.g, o.m, _, upd_same, (h2.mono c.gg).append n5⟩
end

/-! ### a def by its body -/
section
variable {P : Program} {w : World} {K : PySem.W.Frag} {mg : Str → Option Value} {base : Heap} {x qual : Str} {params : Arguments} {body : List Stmt} {scope : Scope} {f : Addr} {fd : FuncData} {N ps : List Str} {k : Nat}
/-- the body's context, nothing raised -/
abbrev bX (P : Program) (w : World) (K : PySem.W.Frag) (mg : Str → Option Value) (base : Heap) (N : List Str) (qual : Str) (scope : Scope) (f : Addr) (cdv : Value) (A : Around) (outer : List Env) (s : Shared) (H : Hp) (E : XK) : Cx := (cxOf CX0 P w K mg base N qual scope f cdv A outer s H E).nox
abbrev aD (qual : Str) (scope : Scope) (s : Shared) (f : Addr) (cdv : Value) (A : Around) : Around := A.deeper (PyProof.Rows.envOfC qual scope s.heap.objs.size f cdv)
theorem mk_fn {F : List D → D → Prop} (Fd : FunD K x qual params body scope [] [] f fd) (S : FnScope N ps scope) (hl : ∀ ds d, F ds d → ds.length = ps.length)
    (hb : ∀ (cdv : Value) (A : Around) (outer : List Env) (s : Shared) (H : Hp) (vs : List V) (Q : VK) (E : XK) (G : Hp) (ds : List D) (d : D), Room k (aD qual scope s f cdv A) → Ok W0 G H → RpA K mg G vs ds → F ds d →
      (∀ v G1 H1, Ch W0 N0 G H G1 H1 → Rp K mg G1 v d → Q v H1) → semB (bX P w K mg base N qual scope f cdv A outer s H E) body { nx := fun _ H' => Q .non H', rt := Q } (start N vs) H) :
    FnOk P w K mg base CX0 (k + 1) f fd ps (SpD K mg F) :=
  Fd.ok S (fun vs H Q E ⟨G, ds, d, k, r, hF, _⟩ => by rw [r.length]; exact hl ds d hF) fun cdv A outer s H vs Q E hr ⟨G, ds, d, ko, r, hF, q⟩ =>
    ⟨_, PSs.nox pss_sem, hb cdv A outer s H vs Q E G ds d hr ko r hF q⟩
theorem mk_cal {CX : CXT} {sp : Sp} {y : Str} (Fd : FunD K x qual params body scope [] [] f fd) (F : FnOk P w K mg base CX k f fd ps sp) (hm : mg y = some (.ref f))
    (hb : ∀ (kV doc pm : Value) (an : Option Addr) (cdv ct : Value) (us : List Value), us.length = ps.length → bindArgs (PySem.W.fnOf x qual params body scope .none kV doc pm an cdv ct) ⟨us, []⟩ = pure (ps.zip us)) : Cal P w K mg base CX y k ps sp :=
  ⟨f, fd, F, hm, Fd.kp, Fd.bindsN hb⟩
end

/-! ### data that == and repr read -/
mutual
def D.py : D → PyData
  | .non => .none | .bl b => .bool b | .int i => .int i | .str x => .str x
  | .lst l => .list (D.pys l) | .tup l => .tuple (D.pys l) | .dic _ => .none | .ins _ _ => .none
def D.pys : List D → List PyData
  | [] => []
  | d :: r => D.py d :: D.pys r
end
mutual
def D.isPy : D → Bool
  | .non | .bl _ | .int _ => true
  | .str x => PyData.strOk x
  | .lst l => D.arePy l | .tup l => D.arePy l | .dic _ => false | .ins _ _ => false
def D.arePy : List D → Bool
  | [] => true
  | d :: r => D.isPy d && D.arePy r
end
mutual
theorem Rp.dp {K : PySem.W.Frag} {mg : Str → Option Value} {H : Hp} : ∀ {v : V} {d : D}, Rp K mg H v d → d.isPy = true → Dp K H v d.py
  | _, _, .non, _ => .non
  | _, _, .bl b, _ => .bl b
  | _, _, .int i, _ => .int i
  | _, _, .str x, _ => .str x
  | _, _, .lst h r, e => .lst h (RpA.dp r (by simpa [D.isPy] using e))
  | _, _, .tup h r, e => .tup h (RpA.dp r (by simpa [D.isPy] using e))
  | _, _, .dic h r, e => by simp [D.isPy] at e
  | _, _, .ins _ _ _ _, e => by simp [D.isPy] at e
theorem RpA.dp {K : PySem.W.Frag} {mg : Str → Option Value} {H : Hp} : ∀ {v : List V} {d : List D}, RpA K mg H v d → D.arePy d = true → DpAll K H v (D.pys d)
  | _, _, .nil, _ => .nil
  | _, _, .cons r s, e => by
    simp [D.arePy] at e
    exact .cons (Rp.dp r e.1) (RpA.dp s e.2)
end
mutual
theorem py_lay : ∀ d : D, d.isPy = true → d.py.canLay0 = true
  | .non, _ => rfl
  | .bl _, _ => rfl
  | .int _, _ => rfl
  | .str x, h => by simpa [D.py, PyData.canLay0, D.isPy] using h
  | .lst l, h => by simpa [D.py, PyData.canLay0] using pys_lay l (by simpa [D.isPy] using h)
  | .tup l, h => by simpa [D.py, PyData.canLay0] using pys_lay l (by simpa [D.isPy] using h)
  | .dic _, h => by simp [D.isPy] at h
  | .ins _ _, h => by simp [D.isPy] at h
theorem pys_lay : ∀ l : List D, D.arePy l = true → PyData.canLayAll0 (D.pys l) = true
  | [], _ => rfl
  | d :: r, h => by
    simp [D.arePy] at h
    simp [D.pys, PyData.canLayAll0, py_lay d h.1, pys_lay r h.2]
end
/-- depth at most n -/
def dep (n : Nat) (d : D) : Prop := d.py.depth ≤ n
theorem shaped_of {d : D} (h : d.isPy = true) (hd : dep 64 d) : SeqAt.shaped d.py = true := by
  unfold SeqAt.shaped
  rw [py_lay d h, decide_eq_true (show d.py.depth ≤ 64 from hd)]; rfl
theorem rr_eqD {X : Cx} {W : Wd} {d e : D} (h1 : d.isPy = true) (h2 : e.isPy = true) (s1 : dep 64 d) (s2 : dep 64 e) : RR X W (rEqD X.K) (· = d) (· = e) (· = .bl (PyData.eqv d.py e.py)) := fun x y d1 d2 G1 H1 k p1 p2 r1 r2 Q q => by
  subst p1; subst p2
  exact ⟨_, _, (r1.mono k.gh).dp h1, (r2.mono k.gh).dp h2, shaped_of h1 s1, shaped_of h2 s2, q _ _ G1 H1 (Ch.refl k) rfl (.bl _)⟩
theorem rr_neD {X : Cx} {W : Wd} {d e : D} (h1 : d.isPy = true) (h2 : e.isPy = true) (s1 : dep 64 d) (s2 : dep 64 e) : RR X W (rNeD X.K) (· = d) (· = e) (· = .bl (!PyData.eqv d.py e.py)) := fun x y d1 d2 G1 H1 k p1 p2 r1 r2 Q q => by
  subst p1; subst p2
  exact ⟨_, _, (r1.mono k.gh).dp h1, (r2.mono k.gh).dp h2, shaped_of h1 s1, shaped_of h2 s2, q _ _ G1 H1 (Ch.refl k) rfl (.bl _)⟩
section
variable {X : Cx} {W : Wd} {a b : Expr} {σ : St} {G H : Hp} {pos : Pos} {d e : D}
theorem et_eqD (hu : X.A.units + 64 < cLine) (ha : Ev X W a σ G H (· = d)) (hb : Ev X W b σ G H (· = e)) (h1 : d.isPy = true) (h2 : e.isPy = true) (s1 : dep 64 d) (s2 : dep 64 e) : EvT X W (.Compare a [.Eq] [b] pos) σ G H (· = PyData.eqv d.py e.py) := et_cmp1 (op_eqD hu) ha hb (rr_eqD h1 h2 s1 s2) (nomark _)
theorem et_neD (hu : X.A.units + 64 < cLine) (ha : Ev X W a σ G H (· = d)) (hb : Ev X W b σ G H (· = e)) (h1 : d.isPy = true) (h2 : e.isPy = true) (s1 : dep 64 d) (s2 : dep 64 e) : EvT X W (.Compare a [.NotEq] [b] pos) σ G H (· = !PyData.eqv d.py e.py) := et_cmp1 (op_neD hu) ha hb (rr_neD h1 h2 s1 s2) (nomark _)
theorem ev_eqD (hu : X.A.units + 64 < cLine) (ha : Ev X W a σ G H (· = d)) (hb : Ev X W b σ G H (· = e)) (h1 : d.isPy = true) (h2 : e.isPy = true) (s1 : dep 64 d) (s2 : dep 64 e) : Ev X W (.Compare a [.Eq] [b] pos) σ G H (· = .bl (PyData.eqv d.py e.py)) := ev_cmp (op_eqD hu) ha hb (rr_eqD h1 h2 s1 s2) (nomark _)
theorem eqv_nil_l (l : List D) : PyData.eqv (D.py (.lst l)) (D.py (.lst [])) = l.isEmpty := by
  cases l <;> simp [D.py, D.pys, PyData.eqv, PyData.eqvAll]
theorem eqv_nil_t (l : List D) : PyData.eqv (D.py (.tup l)) (D.py (.tup [])) = l.isEmpty := by
  cases l <;> simp [D.py, D.pys, PyData.eqv, PyData.eqvAll]
/-- l != [] -/
theorem et_neNil {l : List D} {p2 : Pos} (hu : X.A.units + 64 < cLine) (ha : Ev X W a σ G H (· = .lst l)) (h1 : D.arePy l = true) (s1 : dep 64 (.lst l)) : EvT X W (.Compare a [.NotEq] [.List [] p2] pos) σ G H (· = !l.isEmpty) :=
  (et_neD hu ha (en_lst ea_nil).fz1 (by simpa [D.isPy] using h1) rfl s1 (by show 1 ≤ 64; decide)).imp fun _ h => by rw [h, eqv_nil_l]
theorem et_neNilT {l : List D} {p2 : Pos} {x1} (hu : X.A.units + 64 < cLine) (ha : Ev X W a σ G H (· = .tup l)) (h1 : D.arePy l = true) (s1 : dep 64 (.tup l)) : EvT X W (.Compare a [.NotEq] [.Tuple [] x1 p2] pos) σ G H (· = !l.isEmpty) :=
  (et_neD hu ha (ev_tup ea_nil) (by simpa [D.isPy] using h1) rfl s1 (by show 1 ≤ 64; decide)).imp fun _ h => by rw [h, eqv_nil_t]
end
end GX
set_option Elab.async false
set_option linter.all false
set_option maxRecDepth 100000
set_option maxHeartbeats 1000000
/-! GX6: isinstance told by data; what the head tells. -/
namespace GX
open PySem L2
def isInt : D → Bool | .int _ | .bl _ => true | _ => false
def isBl : D → Bool | .bl _ => true | _ => false
def isStr : D → Bool | .str _ => true | _ => false
def isLst : D → Bool | .lst _ => true | _ => false
def isTup : D → Bool | .tup _ => true | _ => false
def isDic : D → Bool | .dic _ => true | _ => false
theorem kit_int : ∀ {d : D}, insOf d = none → kitB (tyN d) "int" = some (isInt d)
  | .non, _ => (by decide +kernel : kitB "NoneType" "int" = some false)
  | .bl _, _ => (by decide +kernel : kitB "bool" "int" = some true)
  | .int _, _ => (by decide +kernel : kitB "int" "int" = some true)
  | .str _, _ => (by decide +kernel : kitB "str" "int" = some false)
  | .lst _, _ => (by decide +kernel : kitB "list" "int" = some false)
  | .tup _, _ => (by decide +kernel : kitB "tuple" "int" = some false)
  | .dic _, _ => (by decide +kernel : kitB "dict" "int" = some false)
  | .ins _ _, h => by cases h
theorem kit_bl : ∀ {d : D}, insOf d = none → kitB (tyN d) "bool" = some (isBl d)
  | .non, _ => (by decide +kernel : kitB "NoneType" "bool" = some false)
  | .bl _, _ => (by decide +kernel : kitB "bool" "bool" = some true)
  | .int _, _ => (by decide +kernel : kitB "int" "bool" = some false)
  | .str _, _ => (by decide +kernel : kitB "str" "bool" = some false)
  | .lst _, _ => (by decide +kernel : kitB "list" "bool" = some false)
  | .tup _, _ => (by decide +kernel : kitB "tuple" "bool" = some false)
  | .dic _, _ => (by decide +kernel : kitB "dict" "bool" = some false)
  | .ins _ _, h => by cases h
theorem kit_str : ∀ {d : D}, insOf d = none → kitB (tyN d) "str" = some (isStr d)
  | .non, _ => (by decide +kernel : kitB "NoneType" "str" = some false)
  | .bl _, _ => (by decide +kernel : kitB "bool" "str" = some false)
  | .int _, _ => (by decide +kernel : kitB "int" "str" = some false)
  | .str _, _ => (by decide +kernel : kitB "str" "str" = some true)
  | .lst _, _ => (by decide +kernel : kitB "list" "str" = some false)
  | .tup _, _ => (by decide +kernel : kitB "tuple" "str" = some false)
  | .dic _, _ => (by decide +kernel : kitB "dict" "str" = some false)
  | .ins _ _, h => by cases h
theorem kit_lst : ∀ {d : D}, insOf d = none → kitB (tyN d) "list" = some (isLst d)
  | .non, _ => (by decide +kernel : kitB "NoneType" "list" = some false)
  | .bl _, _ => (by decide +kernel : kitB "bool" "list" = some false)
  | .int _, _ => (by decide +kernel : kitB "int" "list" = some false)
  | .str _, _ => (by decide +kernel : kitB "str" "list" = some false)
  | .lst _, _ => (by decide +kernel : kitB "list" "list" = some true)
  | .tup _, _ => (by decide +kernel : kitB "tuple" "list" = some false)
  | .dic _, _ => (by decide +kernel : kitB "dict" "list" = some false)
  | .ins _ _, h => by cases h
theorem kit_tup : ∀ {d : D}, insOf d = none → kitB (tyN d) "tuple" = some (isTup d)
  | .non, _ => (by decide +kernel : kitB "NoneType" "tuple" = some false)
  | .bl _, _ => (by decide +kernel : kitB "bool" "tuple" = some false)
  | .int _, _ => (by decide +kernel : kitB "int" "tuple" = some false)
  | .str _, _ => (by decide +kernel : kitB "str" "tuple" = some false)
  | .lst _, _ => (by decide +kernel : kitB "list" "tuple" = some false)
  | .tup _, _ => (by decide +kernel : kitB "tuple" "tuple" = some true)
  | .dic _, _ => (by decide +kernel : kitB "dict" "tuple" = some false)
  | .ins _ _, h => by cases h
theorem kit_dic : ∀ {d : D}, insOf d = none → kitB (tyN d) "dict" = some (isDic d)
  | .non, _ => (by decide +kernel : kitB "NoneType" "dict" = some false)
  | .bl _, _ => (by decide +kernel : kitB "bool" "dict" = some false)
  | .int _, _ => (by decide +kernel : kitB "int" "dict" = some false)
  | .str _, _ => (by decide +kernel : kitB "str" "dict" = some false)
  | .lst _, _ => (by decide +kernel : kitB "list" "dict" = some false)
  | .tup _, _ => (by decide +kernel : kitB "tuple" "dict" = some false)
  | .dic _, _ => (by decide +kernel : kitB "dict" "dict" = some true)
  | .ins _ _, h => by cases h
section
variable {X : Cx} {W : Wd} {a b : Expr} {σ : St} {G H : Hp} {pos p q2 : Pos} {d e : D}
theorem ev_isInt (hm : X.mg "isinstance" = none) (hmT : X.mg "int" = none) (ha : Ev X W a σ G H (· = d)) (hi : insOf d = none) (hg : Gl X "isinstance" := by rfl) (hgT : Gl X "int" := by rfl)
    (he : starEach [a, .Name "int" q2] X.env = (false, eval a X.env) :: starEach [.Name "int" q2] X.env := by rfl) (he2 : starEach [.Name "int" q2] X.env = (false, eval (.Name "int" q2) X.env) :: starEach [] X.env := by rfl) (hpl : (backTo pos (starEach [.Name "int" q2] X.env)).any (·.1) = false := by rfl) :
    Ev X W (.Call (.Name "isinstance" p) [a, .Name "int" q2] [] pos) σ G H (· = .bl (isInt d)) := ev_isi (T := "int") hm hmT ha hi (kit_int hi) (by decide +kernel) hg hgT (by decide) (by decide) he he2 hpl
theorem ev_isBl (hm : X.mg "isinstance" = none) (hmT : X.mg "bool" = none) (ha : Ev X W a σ G H (· = d)) (hi : insOf d = none) (hg : Gl X "isinstance" := by rfl) (hgT : Gl X "bool" := by rfl)
    (he : starEach [a, .Name "bool" q2] X.env = (false, eval a X.env) :: starEach [.Name "bool" q2] X.env := by rfl) (he2 : starEach [.Name "bool" q2] X.env = (false, eval (.Name "bool" q2) X.env) :: starEach [] X.env := by rfl) (hpl : (backTo pos (starEach [.Name "bool" q2] X.env)).any (·.1) = false := by rfl) :
    Ev X W (.Call (.Name "isinstance" p) [a, .Name "bool" q2] [] pos) σ G H (· = .bl (isBl d)) := ev_isi (T := "bool") hm hmT ha hi (kit_bl hi) (by decide +kernel) hg hgT (by decide) (by decide) he he2 hpl
theorem ev_isStr (hm : X.mg "isinstance" = none) (hmT : X.mg "str" = none) (ha : Ev X W a σ G H (· = d)) (hi : insOf d = none) (hg : Gl X "isinstance" := by rfl) (hgT : Gl X "str" := by rfl)
    (he : starEach [a, .Name "str" q2] X.env = (false, eval a X.env) :: starEach [.Name "str" q2] X.env := by rfl) (he2 : starEach [.Name "str" q2] X.env = (false, eval (.Name "str" q2) X.env) :: starEach [] X.env := by rfl) (hpl : (backTo pos (starEach [.Name "str" q2] X.env)).any (·.1) = false := by rfl) :
    Ev X W (.Call (.Name "isinstance" p) [a, .Name "str" q2] [] pos) σ G H (· = .bl (isStr d)) := ev_isi (T := "str") hm hmT ha hi (kit_str hi) (by decide +kernel) hg hgT (by decide) (by decide) he he2 hpl
theorem ev_isTup (hm : X.mg "isinstance" = none) (hmT : X.mg "tuple" = none) (ha : Ev X W a σ G H (· = d)) (hi : insOf d = none) (hg : Gl X "isinstance" := by rfl) (hgT : Gl X "tuple" := by rfl)
    (he : starEach [a, .Name "tuple" q2] X.env = (false, eval a X.env) :: starEach [.Name "tuple" q2] X.env := by rfl) (he2 : starEach [.Name "tuple" q2] X.env = (false, eval (.Name "tuple" q2) X.env) :: starEach [] X.env := by rfl) (hpl : (backTo pos (starEach [.Name "tuple" q2] X.env)).any (·.1) = false := by rfl) :
    Ev X W (.Call (.Name "isinstance" p) [a, .Name "tuple" q2] [] pos) σ G H (· = .bl (isTup d)) := ev_isi (T := "tuple") hm hmT ha hi (kit_tup hi) (by decide +kernel) hg hgT (by decide) (by decide) he he2 hpl
theorem ev_isLst (hm : X.mg "isinstance" = none) (hmT : X.mg "list" = none) (ha : Ev X W a σ G H (· = d)) (hi : insOf d = none) (hg : Gl X "isinstance" := by rfl) (hgT : Gl X "list" := by rfl)
    (he : starEach [a, .Name "list" q2] X.env = (false, eval a X.env) :: starEach [.Name "list" q2] X.env := by rfl) (he2 : starEach [.Name "list" q2] X.env = (false, eval (.Name "list" q2) X.env) :: starEach [] X.env := by rfl) (hpl : (backTo pos (starEach [.Name "list" q2] X.env)).any (·.1) = false := by rfl) :
    Ev X W (.Call (.Name "isinstance" p) [a, .Name "list" q2] [] pos) σ G H (· = .bl (isLst d)) := ev_isi (T := "list") hm hmT ha hi (kit_lst hi) (by decide +kernel) hg hgT (by decide) (by decide) he he2 hpl
theorem ev_isDic (hm : X.mg "isinstance" = none) (hmT : X.mg "dict" = none) (ha : Ev X W a σ G H (· = d)) (hi : insOf d = none) (hg : Gl X "isinstance" := by rfl) (hgT : Gl X "dict" := by rfl)
    (he : starEach [a, .Name "dict" q2] X.env = (false, eval a X.env) :: starEach [.Name "dict" q2] X.env := by rfl) (he2 : starEach [.Name "dict" q2] X.env = (false, eval (.Name "dict" q2) X.env) :: starEach [] X.env := by rfl) (hpl : (backTo pos (starEach [.Name "dict" q2] X.env)).any (·.1) = false := by rfl) :
    Ev X W (.Call (.Name "isinstance" p) [a, .Name "dict" q2] [] pos) σ G H (· = .bl (isDic d)) := ev_isi (T := "dict") hm hmT ha hi (kit_dic hi) (by decide +kernel) hg hgT (by decide) (by decide) he he2 hpl
/-- isinstance(x, (list, tuple)) -/
theorem ev_isSeq {x1} {q3 q4 : Pos} (hm : X.mg "isinstance" = none) (hmL : X.mg "list" = none) (hmT : X.mg "tuple" = none) (ha : Ev X W a σ G H (· = d)) (hi : insOf d = none) (hg : Gl X "isinstance" := by rfl) (hgL : Gl X "list" := by rfl) (hgT : Gl X "tuple" := by rfl)
    (he : starEach [a, .Tuple [.Name "list" q2, .Name "tuple" q3] x1 q4] X.env = (false, eval a X.env) :: starEach [.Tuple [.Name "list" q2, .Name "tuple" q3] x1 q4] X.env := by rfl)
    (he2 : starEach [.Tuple [.Name "list" q2, .Name "tuple" q3] x1 q4] X.env = (false, eval (.Tuple [.Name "list" q2, .Name "tuple" q3] x1 q4) X.env) :: starEach [] X.env := by rfl) (hpl : (backTo pos (starEach [.Tuple [.Name "list" q2, .Name "tuple" q3] x1 q4] X.env)).any (·.1) = false := by rfl)
    (he3 : starEach [.Name "list" q2, .Name "tuple" q3] X.env = (false, eval (.Name "list" q2) X.env) :: starEach [.Name "tuple" q3] X.env := by rfl) (he4 : starEach [.Name "tuple" q3] X.env = (false, eval (.Name "tuple" q3) X.env) :: starEach [] X.env := by rfl) :
    Ev X W (.Call (.Name "isinstance" p) [a, .Tuple [.Name "list" q2, .Name "tuple" q3] x1 q4] [] pos) σ G H (· = .bl (isLst d || isTup d)) := fun G1 H1 c Q q =>
  semE_of (pe_callB call_isiT hg hm (by decide +kernel) (pa_cons pe_sem (pa_cons (pe_tup (pa_cons (pe_bltn (v := .ty "list") hgL hmL (by decide +kernel) rfl (by decide) (by decide)) (pa_cons (pe_bltn (v := .ty "tuple") hgT hmT (by decide +kernel) rfl (by decide) (by decide)) pa_nil he4) he3)) pa_nil he2) he) (by decide) (by decide) he hpl) (ha G1 H1 c _ fun v d' G2 H2 c2 e r => by
    subst e
    refine ⟨by show 2 ≤ sizeLine; rw [sizeLine_eq]; decide, fun tp htp => ?_⟩
    have cn : Ch W N0 G2 H2 G2 (upd H2 tp (.tup [.ty "list", .ty "tuple"])) := Ch.own c2.ok htp
    obtain ⟨t, ht, e⟩ := r.tyX (fun c fs C z _ => by subst z; cases hi)
    rcases e with e | ⟨c, fs, C, z, _⟩
    · subst e
      refine ⟨v, tp, [.ty "list", .ty "tuple"], _, [.type "list", .type "tuple"], isLst d' || isTup d', rfl, upd_same, .cons (.ty _) (.cons (.ty _) .nil), tyX_ext cn.ok.gh ht, ?_, q _ _ _ _ (c2.trans cn) rfl (.bl _)⟩
      refine kitAny_cons (kit_ty (kit_lst hi)) (fun z => ?_) (fun z => by rw [z]; rfl)
      rw [z]
      exact kitAny_cons (kit_ty (kit_tup hi)) (fun z => by rw [z]; exact kitAny_nil) (fun z => by rw [z]; rfl)
    · subst z; cases hi)
end
section
variable {X : Cx} {W : Wd} {a b : Expr} {σ : St} {G H : Hp} {pos p q2 : Pos} {d e : D}
theorem ev_globR {x : Str} {a : Addr} (hm : X.mg x = some (.ref a)) (hr : ∀ G, Rp X.K X.mg G (.ref a) d) (hg : Gl X x := by rfl) (hd : (x == ("__debug__" : Str)) = false := by decide) : Ev X W (.Name x pos) σ G H (· = d) :=
  ev_glob hm (v := .ref a) rfl hr hg hd
/-- a turn of a comprehension whose target is a name -/
theorem lc1 {scope : Scope} {vs : List Nat} {elt : Expr} {ifs : List Expr} {keep : D → Bool} {E : D → D → Prop} {v : V} {x : Str} (j : Nat) (nd : X.N.Nodup)
    (ht : ∀ s H0 C cl fp, EvTs (blkX X scope s H0 C cl fp) W ifs ((wipe σ vs).set j (some v)) G H (· = keep d)) (he : ∀ s H0 C cl fp, keep d = true → Ev (blkX X scope s H0 C cl fp) W elt ((wipe σ vs).set j (some v)) G H (E d))
    (hw : wipe ((wipe σ vs).set j (some v)) vs = wipe σ vs := by rfl) (hi : X.N[j]? = some x := by rfl) (hx : ∀ s H0 C cl fp, Loc (blkX X scope s H0 C cl fp).env.scope x := by intros; first | exact Or.inl rfl | exact Or.inr rfl)
    (hf : ∀ s H0 C cl fp, (blkX X scope s H0 C cl fp).fn x = true ∨ (blkX X scope s H0 C cl fp).env.scope.names.lookup x = some .local := by intros; first | exact .inl rfl | exact .inr rfl) : LcTurn X W scope vs (.Name x p) elt ifs σ keep E v d G H :=
  ⟨_, hw, fun s H0 C cl fp => ⟨fun Q q => g_name j nd q hi (hx s H0 C cl fp) (hf s H0 C cl fp), ht s H0 C cl fp, he s H0 C cl fp⟩⟩
/-- .. without a test -/
theorem lc1' {scope : Scope} {vs : List Nat} {elt : Expr} {E : D → D → Prop} {v : V} {x : Str} (j : Nat) (nd : X.N.Nodup)
    (he : ∀ s H0 C cl fp, Ev (blkX X scope s H0 C cl fp) W elt ((wipe σ vs).set j (some v)) G H (E d)) (k : Ok W G H := by assumption)
    (hw : wipe ((wipe σ vs).set j (some v)) vs = wipe σ vs := by rfl) (hi : X.N[j]? = some x := by rfl) (hx : ∀ s H0 C cl fp, Loc (blkX X scope s H0 C cl fp).env.scope x := by intros; first | exact Or.inl rfl | exact Or.inr rfl)
    (hf : ∀ s H0 C cl fp, (blkX X scope s H0 C cl fp).fn x = true ∨ (blkX X scope s H0 C cl fp).env.scope.names.lookup x = some .local := by intros; first | exact .inl rfl | exact .inr rfl) : LcTurn X W scope vs (.Name x p) elt [] σ (fun _ => true) E v d G H :=
  lc1 j nd (fun _ _ _ _ _ => ets_nil) (fun s H0 C cl fp _ => he s H0 C cl fp) hw hi hx hf
theorem filter_true {α : Type} (l : List α) : l.filter (fun _ => true) = l := by simp
/-- a list of truths -/
theorem EvN.bls {ds : List D} {bs : List Bool} (h : EvN X W a σ G H (· = ds)) (e : ds = bs.map .bl) : Ev X W a σ G H (· = .lst (bs.map .bl)) := by rw [← e]; exact h.fz1
end
/-! ### what the head tells -/
structure Tx (fa : List He.Fa) (fn : List He.DefD) (ex : PySem.W.Frag → Bool) (K : PySem.W.Frag) (mg : Str → Option Value) : Prop where
  d : ∀ (i : Nat) (d : He.DefD), fn[i]? = some d → ∃ fd, FunD K d.name d.qual d.params d.body d.scope (d.dvs K) (d.kws K) (He.fAd K d.at_) fd
  g : ∀ (i : Nat) x, fa[i]? = some (.glo x) → mg x = some (.ref (He.ga K x))
  n : ∀ (i : Nat) x, fa[i]? = some (.free x) → mg x = none
  i : ∀ (i : Nat) x j, fa[i]? = some (.int x j) → ∃ t, mg x = some (.int j t)
  s : ∀ (i : Nat) x j, fa[i]? = some (.str x j) → ∃ t, mg x = some (.str j t)
  f : ∀ (i : Nat) x, fa[i]? = some x → x.ok K = true
  e : ex K = true
end GX
set_option Elab.async false
set_option linter.all false
set_option maxRecDepth 100000
set_option maxHeartbeats 3200000
/-! GX7 (printed by gen_gx7.py): sets of texts, however many. -/
namespace GX
open PySem
theorem lt_ne1 {l o z : Nat} (h : l < o) (e : z = o + 1) : l ≠ z := by omega
theorem nin2 {o z l : Nat} (h : l < o) (e : z = o + 1) : o ∉ [z, l] := by
  simp only [List.mem_cons, List.not_mem_nil, or_false, not_or]
  omega
theorem nin3 {b o z : Nat} (h : b < o) (e : z = o + 1) : b ∉ [o, z] := by
  simp only [List.mem_cons, List.not_mem_nil, or_false, not_or]
  omega
section
open PySem.Spec PyProof.Rows L2
/-- an empty set's object -/
abbrev setE (w : World) : Obj := { cls := .type "set", dict := none, data := .set #[] 0 (.fresh 0 0 (!w.params.followText "set-order")) }
/-- c is the number of texts in xs, as far as it is wanted -/
def cntOf (xs : List Str) (c : Nat) : Prop := c ≤ xs.length ∧ (c = xs.length ↔ xs.Nodup)
theorem cnt_step {xs : List Str} {i c : Nat} {z : Str} (h : cntOf (xs.take i) c) (hz : xs[i]? = some z) : cntOf (xs.take (i + 1)) (if decide (z ∈ xs.take i) = true then c else c + 1) := by
  have hi : i < xs.length := (List.getElem?_eq_some_iff.mp hz).1
  have l1 : (xs.take i).length = i := by rw [List.length_take]; omega
  have e : xs.take (i + 1) = xs.take i ++ [z] := by rw [List.take_add_one, hz]; rfl
  have l2 : (xs.take (i + 1)).length = i + 1 := by rw [List.length_take]; omega
  obtain ⟨h1, h2⟩ := h
  rw [l1] at h1 h2
  unfold cntOf
  rw [l2, e]
  by_cases m : z ∈ xs.take i
  · rw [if_pos (by simp [m])]
    refine ⟨by omega, fun q => by omega, fun q => ?_⟩
    rw [List.nodup_append] at q
    exact absurd rfl (q.2.2 z m z (by simp))
  · rw [if_neg (by simp [m])]
    refine ⟨by omega, fun q => ?_, fun q => ?_⟩
    · rw [List.nodup_append]
      refine ⟨h2.mp (by omega), by simp, fun a ha b hb e => m ?_⟩
      rw [← List.mem_singleton.mp hb, ← e]
      exact ha
    · rw [List.nodup_append] at q
      have := h2.mpr q.1
      omega
section
variable {P : Program} {w : World} {B : Around} {X' : Value → Shared → Prop} {s0 : Shared}
theorem set_turns {it : Addr} {fp wr : List Addr} {Gn : Array GenState → Array GenState → Prop} {m : Nat} {Pv : Nat → Value → Prop} {St : Nat → Shared → Prop} {R : Result → Shared → Prop}
    (wk : WalksS P w B.in1 it fp wr Gn m Pv St) (o : Addr) (ho : o ∉ fp) (xs : List Str) (hm : m = xs.length) (hb : xs.length + 1 < scanBound) (hv : ∀ i v, Pv i v → ∃ k t, xs[i]? = some k ∧ v = .str k t) :
    ∀ (d i : Nat) (s : Shared), m - i = d → i ≤ m → St i s → (∃ c, cntOf (xs.take i) c ∧ s.heap.SetOf (PySem.strKind P w) o (fun j => decide (j ∈ xs.take i)) c) →
      (∀ s' c, Moved (o :: wr) Gn s s' → cntOf xs c → s'.heap.SetOf (PySem.strKind P w) o (fun j => decide (j ∈ xs)) c → R (.ok (.ret .none)) s') →
      codeAny (model P w) B (.builtin "set.update.loop" ⟨[.ref o, .ref it], []⟩) R s := by
  have how : o ∉ wr := fun h => ho (wk.sub _ h)
  have sb : ∀ b ∈ wr, b ∈ o :: wr := fun b h => List.mem_cons_of_mem _ h
  intro d
  induction d with
  | zero =>
    rintro i s h1 h2 st ⟨c, hc, hs⟩ fin
    obtain rfl : i = m := by omega
    refine codeAny_builtin F.entry_set_update_loop ?_
    rw [Around.under_plainId F.plain_set_update_loop _]
    change wpAny _ B.in1 (pyNext (.ref it) >>= _) _ _ s
    refine wpAny_bind (wk.done s _ _ st fun s2 mv => ?_)
    change wpAny _ B.in1 (ret Value.none) _ _ s2
    have tk : xs.take i = xs := List.take_of_length_le (by omega)
    rw [tk] at hs hc
    obtain ⟨ob, es, ep, t, hob, more⟩ := hs
    exact wpAny_pure (fin s2 c (mv.mono sb) hc ⟨ob, es, ep, t, mv.heap o _ how hob, more⟩)
  | succ d ih =>
    rintro i s h1 h2 st ⟨c, hc, hs⟩ fin
    have lt : i < m := by omega
    refine codeAny_builtin F.entry_set_update_loop ?_
    rw [Around.under_plainId F.plain_set_update_loop _]
    change wpAny _ B.in1 (pyNext (.ref it) >>= _) _ _ s
    refine wpAny_bind (wk.item i s _ _ lt st fun v s2 pv st2 mv => ?_)
    obtain ⟨z, t, hz, rfl⟩ := hv i v pv
    have hs2 : s2.heap.SetOf (PySem.strKind P w) o (fun j => decide (j ∈ xs.take i)) c := by
      obtain ⟨ob, es, ep, t, hob, more⟩ := hs
      exact ⟨ob, es, ep, t, mv.heap o _ how hob, more⟩
    change wpAny _ B.in1 (holding [Value.str z t] (setAdd o (.str z t)) >>= _) _ _ s2
    refine wpAny_bind (wpAny_holding ?_)
    unfold setAdd
    refine wpAny_holding (wpAny_bind ((PySem.strKind P w).pyHash (k := z) (strKind_is _ _ _ _) ?_))
    have hci : c ≤ i := Nat.le_trans hc.1 (by rw [List.length_take]; omega)
    refine wpAny_setAddHashed_of (knd := PySem.strKind P w) (s := { s2 with toks := s2.toks + 1 }) (strKind_is _ _ _ _) rfl hs2 (by omega) fun h3 same hs3 => ?_
    have hs4 := PyProof.Rows.SetOf_congr (S' := fun j => decide (j ∈ xs.take (i + 1))) hs3 (fun j => by
      show (decide (j ∈ xs.take i) || decide (j = z)) = _
      rw [List.take_add_one, hz, ← Bool.decide_or]
      simp [List.mem_append]) rfl
    refine wpAny_pure ⟨plainId_quiet F.plain_set_update_loop _, ih (i + 1) _ (by omega) lt (wk.frame _ s2 _ _ st2 (Nat.le_succ _) fun b hb u e => ?_) ⟨_, cnt_step hc hz, hs4⟩ fun s5 c5 mv5 hc5 hs5 => ?_⟩
    · rw [same.2 b (fun q : b = o => ho (by rw [← q]; exact hb))]; exact e
    · refine fin s5 c5 (Moved.trans wk.gtrans ((mv.mono sb).then_heap (Nat.le_succ _) fun b u hb e => ?_) mv5) hc5 hs5
      rw [same.2 b (fun q : b = o => hb (by rw [q]; exact List.mem_cons_self))]; exact e
theorem call_set_l {l : Addr} {its : Array Value} (xs : List Str) {Q : Value → Shared → Prop} (calm : B.handled = none) (hl : s0.heap.IsList l its) (hi : StrsAre its.toList xs) (hb : xs.length + 1 < scanBound)
    (fin : ∀ (h2 : Heap) (tk c : Nat), h2.SetOf (PySem.strKind P w) s0.heap.objs.size (fun j => decide (j ∈ xs)) c → cntOf xs c → (∀ b u, s0.heap.get? b = some u → h2.get? b = some u) → Q (.ref s0.heap.objs.size) { s0 with heap := h2, toks := tk }) :
    wpAny (model P w) B (call (.type "set") [.ref l]) Q X' s0 := by
  have sz : its.size = xs.length := by rw [← StrsAre.len_eq hi, Array.length_toList]
  have hval : ∀ (i : Nat) (v : Value), its[i]? = some v → ∃ k t, xs[i]? = some k ∧ v = .str k t := fun i v e => by
    have lt : i < xs.length := by rw [← sz]; exact (Array.getElem?_eq_some_iff.mp e).1
    obtain ⟨t, q⟩ := SS.strs_at hi i v (by rw [Array.getElem?_toList]; exact e)
    exact ⟨xs[i], t, List.getElem?_eq_getElem lt, by rw [q, List.getD_eq_getElem?_getD, List.getElem?_eq_getElem lt] <;> rfl⟩
  generalize hO : s0.heap.objs.size = o at fin
  obtain ⟨cls, tail, mro⟩ := F.called_set.mro
  have made := F.called_set.made
  have sub := F.called_set.sub
  refine wpAny_call (codeAny_of_tree ?_)
  change wpAny _ _ (callAny (.type "set") _) _ _ _
  refine wpAny_pure ⟨Code.quiet_builtin _ (by decide +kernel), codeAny_builtin F.entry_type_call ?_⟩
  rw [Around.under_plain (weight_type_call_type "set" [.ref l] []) rfl]
  have nt := F.called_set.notType
  have cc := F.called_set.canCreate
  have tc := F.typeCall_set_1 (.ref l)
  repeat (any_goals (first | assumption | wp_step))

  refine codeAny_mono (code_set_led1 (.ref l) (E := X') (Q₁ := fun ob s1 => ob = .ref o ∧ s1 = { s0 with heap := s0.heap.push (setE w) }) ⟨by rw [hO], rfl⟩) fun r s1 hr => ?_
  match r, hr with
  | .error e, hr => exact hr
  | .ok (.ret ob), hr =>
    obtain ⟨rfl, rfl⟩ := hr
    have gS : (s0.heap.push (setE w)).get? o = some (setE w) := by rw [← hO]; exact Heap.get?_push_size _ rfl
    have tS : Shared.TypeIs { s0 with heap := s0.heap.push (setE w) } (.ref o) "set" := ⟨_, gS, rfl⟩
    have ini := F.called_set.init.lookup
    have bnd := F.called_set.init.bind (.ref o)
    repeat (any_goals (first | assumption | wp_step))

    refine codeAny_mono (codeAny_call_builtin (R := wants (fun r s2 => r = .none ∧ ∃ h2 tk c, s2 = { s0 with heap := h2, toks := tk } ∧ h2.SetOf (PySem.strKind P w) o (fun j => decide (j ∈ xs)) c ∧ cntOf xs c ∧
      (∀ b u, s0.heap.get? b = some u → h2.get? b = some u)) X') F.called_set.init.plain F.entry_set_init (check_set_init_1 tS ?_)) fun r2 s2 hr2 => ?_
    · obtain ⟨⟨oc, od, oda, osl⟩, gl, e1, nl, e2⟩ := hl
      dsimp only at e1 e2
      subst e1; subst e2
      have gl2 : (s0.heap.push (setE w)).get? l = some { cls := .type "list", dict := od, data := .seq its nl, slots := osl } := Heap.get?_push_of_some _ gl
      have su1 := F.sub_list_set
      have su2 := F.sub_list_frozenset
      have nd : (Value.type "list" == Value.type "dict") = false := by decide
      have il : (s0.heap.push (setE w)).IsList l its := ⟨_, gl2, rfl, nl, rfl⟩
      unfold Builtin.«set.__init__» noKeywords Builtin.Frozenset.updateFrom
      generalize hPI : pyIter = PI
      wp_walk
      subst hPI

      refine wpAny_pyIter_list il ?_
      refine wpAny_bind (wpAny_runValue ?_)
      have lo : l < o := by rw [← hO]; exact Heap.lt_size gl
      have c3 : B.in1.in1.in1.handled = none := by simp [calm]
      have s1z : (s0.heap.push (setE w)).objs.size = o + 1 := by rw [← hO]; exact Heap.size_push ..
      have nl2 : l ≠ (s0.heap.push (setE w)).objs.size := lt_ne1 lo s1z
      have nS : o ∉ [(s0.heap.push (setE w)).objs.size, l] := nin2 lo s1z
      refine set_turns ((Walks.list c3 _ l nl2 its).toS) o nS xs sz hb hval (its.size - 0) 0 _ (by omega) (Nat.zero_le _) ⟨⟨_, Heap.get?_push_size _ rfl, rfl, rfl⟩, il.push _⟩ ⟨0, ⟨by simp, by simp⟩, ?_⟩ fun s2 c2 mv hc hs => ?_
      · have gS2 : ((s0.heap.push (setE w)).push { cls := .type "list_iterator", data := .fields #[.ref l, .int 0 0] }).get? o = some (setE w) := Heap.get?_push_of_some _ gS
        exact PyProof.Rows.SetOf_congr ((setObjOf_fresh (knd := PySem.strKind P w) (!w.params.followText "set-order")).setOf gS2 (by unfold scanBound; omega)) (fun _ => by simp) rfl
      · obtain ⟨h2, g2, d2, t2, os2⟩ := s2
        obtain rfl : g2 = s0.gens := mv.gens
        obtain rfl : d2 = s0.drawn := mv.drawn
        obtain rfl : os2 = s0.os := mv.os
        change wpAny _ _ _ _ _ _
        refine wpAny_pure ?_
        change wpAny _ _ (ret Value.none) _ _ _
        refine wpAny_pure ⟨rfl, h2, t2, c2, rfl, hs, hc, fun b u e => ?_⟩
        have lb : b < o := by rw [← hO]; exact Heap.lt_size e
        exact mv.heap b u (nin3 lb s1z) (Heap.get?_push_of_some _ (Heap.get?_push_of_some _ e))
    · match r2, hr2 with
      | .error e, hr2 => exact hr2
      | .ok (.ret r), hr2 =>
        obtain ⟨rfl, h2, tk, c, rfl, hs, hc, kept⟩ := hr2
        repeat (any_goals (first | assumption | wp_step))
        exact fin _ _ _ hs hc kept
      | .ok .next, hr2 => exact hr2.elim
      | .ok .brk, hr2 => exact hr2.elim
      | .ok .cont, hr2 => exact hr2.elim
  | .ok .next, hr => exact hr.elim
  | .ok .brk, hr => exact hr.elim
  | .ok .cont, hr => exact hr.elim
theorem call_set_t {l : Addr} {its : Array Value} (xs : List Str) {Q : Value → Shared → Prop} (calm : B.handled = none) (hl : s0.heap.IsTuple l its) (hi : StrsAre its.toList xs) (hb : xs.length + 1 < scanBound)
    (fin : ∀ (h2 : Heap) (tk c : Nat), h2.SetOf (PySem.strKind P w) s0.heap.objs.size (fun j => decide (j ∈ xs)) c → cntOf xs c → (∀ b u, s0.heap.get? b = some u → h2.get? b = some u) → Q (.ref s0.heap.objs.size) { s0 with heap := h2, toks := tk }) :
    wpAny (model P w) B (call (.type "set") [.ref l]) Q X' s0 := by
  have sz : its.size = xs.length := by rw [← StrsAre.len_eq hi, Array.length_toList]
  have hval : ∀ (i : Nat) (v : Value), its[i]? = some v → ∃ k t, xs[i]? = some k ∧ v = .str k t := fun i v e => by
    have lt : i < xs.length := by rw [← sz]; exact (Array.getElem?_eq_some_iff.mp e).1
    obtain ⟨t, q⟩ := SS.strs_at hi i v (by rw [Array.getElem?_toList]; exact e)
    exact ⟨xs[i], t, List.getElem?_eq_getElem lt, by rw [q, List.getD_eq_getElem?_getD, List.getElem?_eq_getElem lt] <;> rfl⟩
  generalize hO : s0.heap.objs.size = o at fin
  obtain ⟨cls, tail, mro⟩ := F.called_set.mro
  have made := F.called_set.made
  have sub := F.called_set.sub
  refine wpAny_call (codeAny_of_tree ?_)
  change wpAny _ _ (callAny (.type "set") _) _ _ _
  refine wpAny_pure ⟨Code.quiet_builtin _ (by decide +kernel), codeAny_builtin F.entry_type_call ?_⟩
  rw [Around.under_plain (weight_type_call_type "set" [.ref l] []) rfl]
  have nt := F.called_set.notType
  have cc := F.called_set.canCreate
  have tc := F.typeCall_set_1 (.ref l)
  repeat (any_goals (first | assumption | wp_step))

  refine codeAny_mono (code_set_led1 (.ref l) (E := X') (Q₁ := fun ob s1 => ob = .ref o ∧ s1 = { s0 with heap := s0.heap.push (setE w) }) ⟨by rw [hO], rfl⟩) fun r s1 hr => ?_
  match r, hr with
  | .error e, hr => exact hr
  | .ok (.ret ob), hr =>
    obtain ⟨rfl, rfl⟩ := hr
    have gS : (s0.heap.push (setE w)).get? o = some (setE w) := by rw [← hO]; exact Heap.get?_push_size _ rfl
    have tS : Shared.TypeIs { s0 with heap := s0.heap.push (setE w) } (.ref o) "set" := ⟨_, gS, rfl⟩
    have ini := F.called_set.init.lookup
    have bnd := F.called_set.init.bind (.ref o)
    repeat (any_goals (first | assumption | wp_step))

    refine codeAny_mono (codeAny_call_builtin (R := wants (fun r s2 => r = .none ∧ ∃ h2 tk c, s2 = { s0 with heap := h2, toks := tk } ∧ h2.SetOf (PySem.strKind P w) o (fun j => decide (j ∈ xs)) c ∧ cntOf xs c ∧
      (∀ b u, s0.heap.get? b = some u → h2.get? b = some u)) X') F.called_set.init.plain F.entry_set_init (check_set_init_1 tS ?_)) fun r2 s2 hr2 => ?_
    · obtain ⟨⟨oc, od, oda, osl⟩, gl, e1, nl, e2⟩ := hl
      dsimp only at e1 e2
      subst e1; subst e2
      have gl2 : (s0.heap.push (setE w)).get? l = some { cls := .type "tuple", dict := od, data := .seq its nl, slots := osl } := Heap.get?_push_of_some _ gl
      have su1 := F.sub_tuple_set
      have su2 := F.sub_tuple_frozenset
      have nd : (Value.type "tuple" == Value.type "dict") = false := by decide
      have il : (s0.heap.push (setE w)).IsTuple l its := ⟨_, gl2, rfl, nl, rfl⟩
      unfold Builtin.«set.__init__» noKeywords Builtin.Frozenset.updateFrom
      generalize hPI : pyIter = PI
      wp_walk
      subst hPI

      refine wpAny_pyIter_tuple il ?_
      refine wpAny_bind (wpAny_runValue ?_)
      have lo : l < o := by rw [← hO]; exact Heap.lt_size gl
      have c3 : B.in1.in1.in1.handled = none := by simp [calm]
      have s1z : (s0.heap.push (setE w)).objs.size = o + 1 := by rw [← hO]; exact Heap.size_push ..
      have nl2 : l ≠ (s0.heap.push (setE w)).objs.size := lt_ne1 lo s1z
      have nS : o ∉ [(s0.heap.push (setE w)).objs.size, l] := nin2 lo s1z
      refine set_turns ((Walks.tuple c3 _ l nl2 its).toS) o nS xs sz hb hval (its.size - 0) 0 _ (by omega) (Nat.zero_le _) ⟨⟨_, Heap.get?_push_size _ rfl, rfl, rfl⟩, il.push _⟩ ⟨0, ⟨by simp, by simp⟩, ?_⟩ fun s2 c2 mv hc hs => ?_
      · have gS2 : ((s0.heap.push (setE w)).push { cls := .type "tuple_iterator", data := .fields #[.ref l, .int 0 0] }).get? o = some (setE w) := Heap.get?_push_of_some _ gS
        exact PyProof.Rows.SetOf_congr ((setObjOf_fresh (knd := PySem.strKind P w) (!w.params.followText "set-order")).setOf gS2 (by unfold scanBound; omega)) (fun _ => by simp) rfl
      · obtain ⟨h2, g2, d2, t2, os2⟩ := s2
        obtain rfl : g2 = s0.gens := mv.gens
        obtain rfl : d2 = s0.drawn := mv.drawn
        obtain rfl : os2 = s0.os := mv.os
        change wpAny _ _ _ _ _ _
        refine wpAny_pure ?_
        change wpAny _ _ (ret Value.none) _ _ _
        refine wpAny_pure ⟨rfl, h2, t2, c2, rfl, hs, hc, fun b u e => ?_⟩
        have lb : b < o := by rw [← hO]; exact Heap.lt_size e
        exact mv.heap b u (nin3 lb s1z) (Heap.get?_push_of_some _ (Heap.get?_push_of_some _ e))
    · match r2, hr2 with
      | .error e, hr2 => exact hr2
      | .ok (.ret r), hr2 =>
        obtain ⟨rfl, h2, tk, c, rfl, hs, hc, kept⟩ := hr2
        repeat (any_goals (first | assumption | wp_step))
        exact fin _ _ _ hs hc kept
      | .ok .next, hr2 => exact hr2.elim
      | .ok .brk, hr2 => exact hr2.elim
      | .ok .cont, hr2 => exact hr2.elim
  | .ok .next, hr => exact hr.elim
  | .ok .brk, hr => exact hr.elim
  | .ok .cont, hr => exact hr.elim
end
end
end GX
set_option Elab.async false
set_option linter.all false
set_option maxRecDepth 100000
set_option maxHeartbeats 1000000
/-! GX8 (printed by gen_gx7.py): how many texts a set has. -/
namespace GX
open PySem L2
open PyProof.Rows (Call_ boot_set callWith_builtin1 args_cons callWith_type1 args_nil)
section
variable {X : Cx} {W : Wd} {a b : Expr} {σ : L2.St} {G H : Hp} {p p2 q pos : Pos}
/-- len(set(a)), a texts -/
theorem ev_lenSet {d : D} {xs : List Str} (hc : X.calm = true) (hm : X.mg "len" = none) (hm2 : X.mg "set" = none) (ha : Ev X W a σ G H (· = d)) (hd : seq? d = some (xs.map .str)) (hb : xs.length < 4000) (hg : Gl X "len" := by rfl) (hg2 : Gl X "set" := by rfl)
    (na : starEach [a] X.env = (false, eval a X.env) :: starEach [] X.env := by rfl) : Ev X W (.Call (.Name "len" p) [.Call (.Name "set" p2) [a] [] q] [] pos) σ G H (fun d => ∃ c : Nat, d = .int c ∧ cntOf xs c) := fun G1 H1 c1 Q qq pins s I => by
  refine Call_ (ld_blt I hg hm boot_len ?_)
  refine callWith_builtin1 (args_cons ?_ rfl) rfl rfl
  refine Call_ (ld_blt I hg2 hm2 boot_set ?_)
  refine callWith_type1 (args_cons (thn (ha G1 H1 c1 (fun v H2 => ∃ G2, Ch W N0 G1 H1 G2 H2 ∧ Rp X.K X.mg G2 v d) (fun v d' G2 H2 c e r => by subst e; exact ⟨G2, c, r⟩) pins s I) fun v s1 ⟨x, H2, I2, r2, G2, c2, rv⟩ => args_nil ?_) na) na rfl
  obtain ⟨l, vs, rfl, hs, rs⟩ := rv.seq hd
  obtain rfl := rs.strs_v
  cases r2
  have sb : xs.length + 1 < scanBound := by unfold scanBound; omega
  have fin : ∀ (h2 : Heap) (tk c : Nat), h2.SetOf (PySem.strKind X.prog X.w) s1.heap.objs.size (fun j => decide (j ∈ xs)) c → cntOf xs c → (∀ b u, s1.heap.get? b = some u → h2.get? b = some u) →
      wpAny (model X.prog X.w) X.A (spliced (backTo pos (starEach [] X.env))) (fun vs s₂ => wpAny (model X.prog X.w) X.A (call (.builtin "len") (Value.ref s1.heap.objs.size :: vs)) (EP X pins σ Q) X.xe s₂) X.xe { s1 with heap := h2, toks := tk } := fun h2 tk c hS hn hk => by
    refine args_nil ?_
    obtain ⟨o, es, ep, t, ho, hex, hd, _, _, _, hf, hsz⟩ := hS
    have I3 : L2.Inv X pins σ H2 { s1 with heap := h2, toks := tk } := I2.kept fun b o e => hk b o e
    have := hn.1
    refine call_len_set ho hex hd hf (by rw [hsz]; omega) ⟨.int c, H2, I3.tok _, ⟨_, by rw [hsz]⟩, qq _ _ G2 H2 c2 ⟨c, rfl, hn⟩ (.int _)⟩
  rcases c2.ok.gh.s hs with hq | hq
  · obtain ⟨its, r, pl, hz⟩ := I2.list hq
    exact call_set_l xs (I2.ok.hd hc) pl.isList (by simpa using strsAre_of r) sb fin
  · obtain ⟨its, r, pl, hz⟩ := I2.tuple hq
    exact call_set_t xs (I2.ok.hd hc) pl (by simpa using strsAre_of r) sb fin
/-- len(set(a)) == len(b) -/
theorem ev_setAll {xs : List Str} (ha : Ev X W a σ G H (fun d => ∃ c : Nat, d = .int c ∧ cntOf xs c)) (hb : Ev X W b σ G H (· = .int xs.length)) : Ev X W (.Compare a [.Eq] [b] pos) σ G H (· = .bl (decide xs.Nodup)) :=
  ev_cmp op_eq ha hb (fun v w e1 e2 G1 H1 k p1 p2 r1 r2 Q q => by
    obtain ⟨c, rfl, h1, h2⟩ := p1
    subst p2
    rw [r1.int_v, r2.int_v]
    refine ⟨rfl, q _ _ G1 H1 (Ch.refl k) ?_ (.bl _)⟩
    rw [decV_int]
    congr 1
    rw [decide_eq_decide]
    exact Iff.trans ⟨fun e => by omega, fun e => by omega⟩ h2) (nomark _)
end
end GX
set_option Elab.async false
set_option linter.all false
set_option maxRecDepth 100000
set_option maxHeartbeats 2000000
/-! GX9: defs that are run where no repr is under way (guards empty): repr of nested data, the law's own call. -/
namespace GX
open PySem PySem.Spec PyProof.Rows L2
/-- a def's promise where no guard is held -/
structure FnG (P : Program) (w : World) (K : PySem.W.Frag) (mg : Str → Option Value) (base : Heap) (CX : CXT) (k : Nat) (f : Addr) (fd : FuncData) (ps : List Str) (sp : Sp) : Prop where
  len : ∀ vs H Q E, sp vs H Q E → vs.length = ps.length
  run : ∀ (A : Around) (outer : List Env) (s : Shared) (H : Hp) (args : Args) (us : List Value) (vs : List V) (Q : VK) (E : XK), A.guards = some [] → Room k A → Env0 P w K mg base A outer s H → BindsTo s fd args (ps.zip us) → Vals vs us →
    sp vs H Q E → codeAny (model P w) A (.call (.ref f) args) (CR CX outer P w H s Q E) s
section
variable {P : Program} {w : World} {K : PySem.W.Frag} {mg : Str → Option Value} {base : Heap} {CX : CXT} {x qual : Str} {params : Arguments} {body : List Stmt} {scope : Scope} {f : Addr} {fd : FuncData} {N ps : List Str} {k : Nat} {sp : Sp}
theorem FnOk.g (F : FnOk P w K mg base CX k f fd ps sp) : FnG P w K mg base CX k f fd ps sp := ⟨F.len, fun A outer s H args us vs Q E _ => F.run A outer s H args us vs Q E⟩
theorem FunD.okG {dvs : List V} {kws : List (Str × V)} (Fd : FunD K x qual params body scope dvs kws f fd) (S : FnScope N ps scope) (hl : ∀ vs H Q E, sp vs H Q E → vs.length = ps.length)
    (hb : ∀ (cdv : Value) (A : Around) (outer : List Env) (s : Shared) (H : Hp) (vs : List V) (Q : VK) (E : XK), A.guards = some [] → Room k (A.deeper (envOfC qual scope s.heap.objs.size f cdv)) → sp vs H Q E →
      ∃ t, PSs (cxOf CX P w K mg base N qual scope f cdv A outer s H E) body t ∧ t { nx := fun _ H' => Q .non H', rt := Q } (start N vs) H) : FnG P w K mg base CX (k + 1) f fd ps sp := by
  obtain ⟨oc, od, dV, kV, doc, pm, an, cdv, ct, osl, rfl, lk, hcd, _, _⟩ := Fd.ex
  refine ⟨hl, fun A outer s H args us vs Q E gA room env bd rel want => ?_⟩
  have inH : K.In s.heap := env.mod.kin.keeps fun b o e => (env.bs b o e).1
  have noL : s.heap.NoLimit := env.mod.nolimit.keeps fun b o e => (env.bs b o e).1
  refine codeAny_call_function room.depth (inH _ _ lk) rfl S.co S.gen rfl (PySem.W.codeRec_of inH hcd) (bd _ _ _ _ ?_)
  refine wpAny_newFunctionEnv_cells S.kind (fun y hy => (S.par y.1 (List.of_mem_zip (show (y.1, y.2) ∈ ps.zip us from hy)).1).imp id fun q => ⟨q, PySem.W.cellsFrom_some _ _ _ (.inl q)⟩) fun env' he s1 inC => ?_
  subst he
  refine ⟨noL.keeps inC.toInCall.keep, codeAny_func ?_⟩
  obtain ⟨t, pt, ht⟩ := hb cdv A outer s H vs Q E gA (room.deeper _) want
  have I0 : Inv (cxOf CX P w K mg base N qual scope f cdv A outer s H E) [] (start N vs) H s1 := inv_start S room.hd env (hl _ _ _ _ want) rel inC
  refine wpAny_mono (pt.run [] s1 (start N vs) H _ I0 ht) (fun out s2 hs => ?_) fun _ _ hs => hs
  match out, hs with
  | .ret u, ⟨v, σ2, H2, J, rv, q⟩ => exact ⟨v, H2, J.os, J.bare, J.base, J.hok, rv, q⟩
  | .next, ⟨σ2, H2, J, q⟩ => exact ⟨V.non, H2, J.os, J.bare, J.base, J.hok, rfl, q⟩
  | .brk, ⟨_, _, _, q⟩ => exact False.elim q
  | .cont, ⟨_, _, _, q⟩ => exact False.elim q
end
section
variable {X : Cx} {E : XK} {k : Nat} {f : Addr} {fd : FuncData} {ps : List Str} {sp : Sp} {x : Str} {e : Expr} {es : List Expr} {p pos : Pos} {t : TA}
theorem pe_callG (F : FnG X.prog X.w X.K X.mg X.base CX0 k f fd ps sp) (gA : X.A.guards = some []) (hr : Room k X.A) (hg : Gl X x) (hm : X.mg x = some (.ref f)) (hk : PySem.W.keepIn X.K (.ref f) = true) (hb : Binds X.K fd ps []) (hx : Passes CX0 X E)
    (ha : PA X (e :: es) t) (hdb : (x == ("__debug__" : Str)) = false := by decide) (he : starEach (e :: es) X.env = (false, eval e X.env) :: starEach es X.env := by rfl) (hpl : (backTo pos (starEach es X.env)).any (·.1) = false := by rfl) :
    PE X (.Call (.Name x p) (e :: es) [] pos) (tCall sp [] E t) := by
  refine ⟨fun pins s σ H Q I h => wpAny_Call_Name_kw (ld_glob I hg hm ?_ hdb)⟩
  refine PySem.W.callWith_K (h₀ := X.base) I.ok.mod.kin hk (thn (ha.run pos pins s σ H _ I h) fun us s1 ⟨vs, H1, I1, r, q⟩ => ⟨I1.kIn, ?_⟩) he hpl
  have q1 : sp vs H1 Q E := by
    have q2 : sp (vs ++ []) H1 Q E := q
    rwa [List.append_nil] at q2
  have bd := hb s1 us I1.kIn (by rw [List.append_nil, ← r.length]; exact F.len _ _ _ _ q1)
  rw [List.append_nil] at bd
  refine wpAny_call (codeAny_mono (F.run X.A X.stack s1 H1 ⟨us, []⟩ us vs Q E gA hr I1.env0 bd r q1) fun r s2 hq => ?_)
  match r, hq with
  | .error e, hq => exact hx pins σ H1 s1 e s2 I1 hq
  | .ok (.ret u), hq => exact I1.after hq
  | .ok .next, hq => exact False.elim hq
  | .ok .brk, hq => exact False.elim hq
  | .ok .cont, hq => exact False.elim hq
theorem cr_repr (gA : X.A.guards = some []) (hu : X.A.units + 70 < cLine) : CallR X (.builtin "repr") (fun xs H Q => ∃ a d, xs = [.ref a] ∧ Dp X.K H (.ref a) d ∧ d.showable = true ∧ d.hasDict = false ∧ d.depth ≤ 64 ∧ d.shown.length ≤ sizeLine ∧ Q (.str d.shown) H) := by
  intro pins s σ H xs us Q I r h
  obtain ⟨a, d, rfl, hd, hs, hn, h64, hz, q⟩ := h
  obtain ⟨u, rfl, ru⟩ := vals1 r
  obtain rfl : u = .ref a := ru
  obtain ⟨as, rd⟩ := Dp.reads I d _ _ hd rfl
  exact repr_of_reads' rd hs (PyData.noDict_hsm hn) gA (by omega) (fun _ _ e => e) (fun h' u tk hk => (have I2 : L2.Inv X pins σ H { s with heap := h', toks := tk } := I.kept fun b o e => hk b o e; ⟨.str d.shown, H, I2, ⟨u, rfl⟩, q⟩)) hz
theorem ev_repr {W : Wd} {σ : L2.St} {G H : Hp} {d : D} (gA : X.A.guards = some []) (hu : X.A.units + 70 < cLine) (hm : X.mg "repr" = none) (ha : Ev X W e σ G H (· = d)) (hp : (seq? d).isSome = true) (h1 : d.isPy = true) (hs : d.py.showable = true) (h64 : dep 64 d) (hz : d.py.shown.length ≤ sizeLine) (hg : Gl X "repr" := by rfl)
    (hst : starEach [e] X.env = (false, eval e X.env) :: starEach [] X.env := by rfl) : Ev X W (.Call (.Name "repr" p) [e] [] pos) σ G H (· = .str d.py.shown) := fun G1 H1 c Q q =>
  semE_of (pe_callB (cr_repr gA hu) hg hm PyProof.Rows.bootS_repr (pa_cons pe_sem pa_nil hst) (by decide) (by decide) hst) (ha G1 H1 c _ fun v d' G2 H2 c2 e' r => by
    subst e'
    obtain ⟨l, hl⟩ := Option.isSome_iff_exists.mp hp
    obtain ⟨a, vs, rfl, _, _⟩ := r.seq hl
    exact ⟨a, _, rfl, (r.mono c2.ok.gh).dp h1, hs, PyData.hasDict_of_canLay _ (py_lay _ h1), h64, hz, q _ _ G2 H2 c2 rfl (.str _)⟩)
end
/-! ### the law is called -/
section
variable {P : Program} {w : World} {K : PySem.W.Frag} {mg mb : Str → Option Value} {fa a : Addr} {s1 : Shared} {vs : List Value} {ns : List Int}
theorem law_at (inK : K.In s1.heap) (hns : s1.heap.Ns mainGlobals mg) (hb : s1.heap.Ns builtinsNs mb) (hbb : ∀ x : Str, x ≠ "__name__" → mb x = bootBuiltins x) (hlim : s1.heap.NoLimit) (hg : s1.gens = #[])
    (ha : s1.heap.get? a = some { cls := .type "list", data := .seq vs.toArray }) (hi : IntsAre vs ns) (hl : ns.length ≤ sizeLine)
    (run : ∀ (base : Heap) (H : Hp), K.In base → base.Ns mainGlobals mg → SqL K H a (ns.map V.int) → Env0 P w K mg base callerA [] s1 H → codeAny (model P w) callerA (.call (.ref fa) ⟨[.ref a], []⟩) (CR CX0 [] P w H s1 (fun v _ => v = .bl true) fun _ _ _ => False) s1) :
    codeAny (model P w) callerA (.call (.ref fa) ⟨[.ref a], []⟩) (fun r s' => r = .ok (.ret (.bool true)) ∧ OldK s1.heap s'.heap ∧ s'.os = s1.os ∧ AllBare s'.gens) s1 := by
  have len := hi.length
  -- nothing is tracked but the script, where it is not the module's own
  have main : ∀ H : Hp, (∀ b, H b = none ∨ (b = a ∧ K.lookup a = none ∧ ∃ o xs, H b = some (.frz o (.lst xs)))) → SqL K H a (ns.map V.int) → HOk P w H s1.heap →
      codeAny (model P w) callerA (.call (.ref fa) ⟨[.ref a], []⟩) (fun r s' => r = .ok (.ret (.bool true)) ∧ OldK s1.heap s'.heap ∧ s'.os = s1.os ∧ AllBare s'.gens) s1 := by
    intro H only sq hok
    have free : ∀ {b : Addr} {o : Obj} {es : Array DictEntry} {ep : Nat}, s1.heap.get? b = some o → o.data = .dict es ep → H b = none := fun {b o es ep} e d => by
      rcases only b with z | ⟨rfl, _, _⟩
      · exact z
      · rw [ha] at e
        obtain rfl := (Option.some.inj e)
        cases d
    have bas : ∀ {b : Addr} {m : Str → Option Value}, s1.heap.Ns b m → (hidT s1.heap H).Ns b m := fun ⟨o, es, ep, e, d, r⟩ => ⟨o, es, ep, hidT_get e (free e d), d, r⟩
    have kin : K.In (hidT s1.heap H) := fun b o e => hidT_get (inK b o e) (by
      rcases only b with z | ⟨rfl, z, _⟩
      · exact z
      · rw [z] at e; cases e)
    have env : Env0 P w K mg (hidT s1.heap H) callerA [] s1 H := ⟨rfl, ⟨kin, bas hns, ⟨mb, bas hb, hbb⟩, let ⟨mc, h1, h2⟩ := hlim; ⟨mc, bas h1, h2⟩⟩, fun b o e => of_hidT e, Nat.le_of_eq (hidT_size _ _), trivial, fun b hb => absurd (show b ∈ ([] : List Addr) from hb) (by simp), hok, .of_eq hg⟩
    refine codeAny_mono (run _ H kin (bas hns) sq env) fun r s2 h => ?_
    match r, h with
    | .error e, h => exact (show False from h).elim
    | .ok .next, h => exact False.elim h
    | .ok .brk, h => exact False.elim h
    | .ok .cont, h => exact False.elim h
    | .ok (.ret u), ⟨v, H2, os, bare, un, hok2, rv, e⟩ =>
      have e' : v = .bl true := e
      subst e'
      obtain rfl : u = Value.bool true := rv
      refine ⟨rfl, OldK.of_keep fun b o e => ?_, os, bare⟩
      rcases only b with z | ⟨_, _, ob, xs, z⟩
      · exact un.keep b o e z (by intro m; exact absurd (show b ∈ ([] : List Addr) from m) (by simp)) (by simp)
      · obtain ⟨e1, _⟩ := hok b _ z
        obtain ⟨e2, _⟩ := hok2 b _ (un.frzs b ob _ z)
        rw [e] at e1; cases e1
        exact e2
  cases hk : K.lookup a with
  | some o =>
    have e := inK a o hk
    rw [ha] at e
    cases e
    exact main (fun _ => none) (fun _ => .inl rfl) (.inr ⟨_, vs.toArray, _, hk, rfl, rfl, rfl, by rw [List.size_toArray, len]; exact hl, by simpa using vals_ints hi⟩) fun b u z => by have z' : (none : Option HO) = some u := z; cases z'
  | none =>
    refine main (fun b => if b = a then some (.frz { cls := .type "list", data := .seq vs.toArray } (.lst (ns.map V.int))) else none) (fun b => ?_) (.inl (.inr ⟨{ cls := .type "list", data := .seq vs.toArray }, if_pos rfl⟩)) fun b u z => ?_
    · by_cases q : b = a
      · exact .inr ⟨q, hk, _, _, if_pos q⟩
      · exact .inl (if_neg q)
    · by_cases q : b = a
      · have z' := (if_pos q).symm.trans z
        cases z'
        subst q
        exact ⟨ha, by rw [List.length_map]; exact hl, vs, _, vals_ints hi, ha⟩
      · have z' := (if_neg q).symm.trans z
        cases z'
end
end GX
set_option Elab.async false
set_option linter.all false
set_option maxRecDepth 100000
set_option maxHeartbeats 2000000
/-! GX10: list + list, l.extend(..), of any lists that stand; fields; len of an instance; calls of methods, of classes, by keywords. -/
namespace GX
open PySem PySem.AutoSeq1 L2
/-! ### list + list, list.extend -/
theorem meets_add (l : Addr) (xs : Array Value) (n : Nat) (d1 : Option Addr) (s1 : Array (Option Value)) (b : Addr) (ys : Array Value) (m : Nat) (d2 : Option Addr) (s2 : Array (Option Value)) (hz : xs.size + ys.size ≤ sizeLine) :
    Meets (Builtin.«list.__add__» ⟨[.ref l, .ref b], []⟩) (fun _ R s => s.heap.get? l = some { cls := .type "list", dict := d1, data := .seq xs n, slots := s1 } ∧ s.heap.get? b = some { cls := .type "list", dict := d2, data := .seq ys m, slots := s2 } ∧
      R (.ok (.ret (Value.ref s.heap.objs.size))) { s with heap := s.heap.push { cls := Value.type "list", data := Data.seq (xs ++ ys) }, toks := s.toks }) :=
  .of_wp fun prog w A R s h => by
    obtain ⟨hp, g, d, tk, os⟩ := s
    obtain ⟨h1, h2, h⟩ := h
    have e1 := idx_int
    have e2 := sub_list_list
    wp_walk using wpAny_loadPart' h1, wpAny_loadPart' h2
    exact ⟨_, rfl, h⟩
theorem meets_extL (l : Addr) (xs : Array Value) (n : Nat) (b : Addr) (ys : Array Value) (m : Nat) (d2 : Option Addr) (s2 : Array (Option Value)) (hc : ¬(!xs.isEmpty && Builtin.List.listTooLong (xs.size + ys.size)) = true) (hx : xs.size ≤ sizeLine) (hz : (xs ++ ys).size ≤ sizeLine + 1) :
    Meets (Builtin.«list.extend» ⟨[.ref l, .ref b], []⟩) (fun _ R s => s.heap.get? l = some { cls := .type "list", dict := none, data := .seq xs n, slots := #[] } ∧ s.heap.get? b = some { cls := .type "list", dict := d2, data := .seq ys m, slots := s2 } ∧
      R (.ok (.ret Value.none)) { s with heap := s.heap.update l (Obj.mapSeq fun x => x ++ ys), toks := s.toks }) :=
  .of_wp fun prog w A R s h => by
    obtain ⟨hp, g, d, tk, os⟩ := s
    obtain ⟨h1, h2, h⟩ := h
    have e1 := idx_int
    have e2 := sub_list_list
    have e3 := sub_tuple_tuple
    have e4 := sub_list_tuple
    have e5 := sub_tuple_list
    wp_walk using (wpAny_updateSeq h1 rfl (hz := hx) (_hz' := hz)), wpAny_loadPart' h1, wpAny_loadPart' h2
    exact ⟨_, rfl, h⟩
theorem meets_extT (l : Addr) (xs : Array Value) (n : Nat) (b : Addr) (ys : Array Value) (m : Nat) (d2 : Option Addr) (s2 : Array (Option Value)) (hc : ¬(!xs.isEmpty && Builtin.List.listTooLong (xs.size + ys.size)) = true) (hx : xs.size ≤ sizeLine) (hz : (xs ++ ys).size ≤ sizeLine + 1) :
    Meets (Builtin.«list.extend» ⟨[.ref l, .ref b], []⟩) (fun _ R s => s.heap.get? l = some { cls := .type "list", dict := none, data := .seq xs n, slots := #[] } ∧ s.heap.get? b = some { cls := .type "tuple", dict := d2, data := .seq ys m, slots := s2 } ∧
      R (.ok (.ret Value.none)) { s with heap := s.heap.update l (Obj.mapSeq fun x => x ++ ys), toks := s.toks }) :=
  .of_wp fun prog w A R s h => by
    obtain ⟨hp, g, d, tk, os⟩ := s
    obtain ⟨h1, h2, h⟩ := h
    have e1 := idx_int
    have e2 := sub_list_list
    have e3 := sub_tuple_tuple
    have e4 := sub_list_tuple
    have e5 := sub_tuple_list
    wp_walk using (wpAny_updateSeq h1 rfl (hz := hx) (_hz' := hz)), wpAny_loadPart' h1, wpAny_loadPart' h2
    exact ⟨_, rfl, h⟩
section
variable {X : Cx}
def rAddL (K : PySem.W.Frag) : R2 := fun x y H Q => ∃ a b xs ys, x = .ref a ∧ y = .ref b ∧ SqL K H a xs ∧ SqL K H b ys ∧ xs.length + ys.length ≤ sizeLine ∧ ∀ p, H p = none → Q (.ref p) (upd H p (.lst (xs ++ ys)))
theorem op_addL : OpR X (binaryOp .Add) (rAddL X.K) := by
  intro pins s σ H x y v u Q I rx ry h
  obtain ⟨a, b, xs, ys, rfl, rfl, ha, hb, hz, q⟩ := h
  cases rx
  cases ry
  obtain ⟨i1, r1, ⟨⟨c1, d1, t1, s1⟩, n1, g1, k1, _, e1⟩, _⟩ := I.list ha
  obtain ⟨i2, r2, ⟨⟨c2, d2, t2, s2⟩, n2, g2, k2, _, e2⟩, _⟩ := I.list hb
  dsimp only at k1 k2 e1 e2
  subst k1; subst k2; subst e1; subst e2
  have hn := I.hok.fresh (Nat.le_refl s.heap.objs.size)
  have l1 := r1.length
  have l2 := r2.length
  refine concat_meets ⟨_, g1, rfl⟩ ⟨_, g2, rfl⟩ noFill_list_add seq_list_add F.slot_list_add F.entry_list_add (F.args_list_add_2 _ _) (meets_add a i1.toArray n1 d1 s1 b i2.toArray n2 d2 s2 (by rw [List.size_toArray, List.size_toArray]; omega)) ⟨g1, g2, .ref s.heap.objs.size, _, ?_, rfl, q s.heap.objs.size hn⟩
  refine I.laid (a := s.heap.objs.size) (o := .lst (xs ++ ys)) (h' := s.heap.push { cls := .type "list", data := .seq (i1.toArray ++ i2.toArray) }) (t' := s.toks) (fun _ _ z => Heap.get?_push_of_some _ z) (Nat.le_refl _) ⟨by rw [List.length_append]; exact hz, i1 ++ i2, 0, r1.append r2, ?_⟩
  rw [show (i1 ++ i2).toArray = i1.toArray ++ i2.toArray by simp]
  exact Heap.get?_push_size _ rfl
def rExtA (K : PySem.W.Frag) : V → List V → Hp → VK → Prop := fun x vs H Q => ∃ l b xs zs, x = .ref l ∧ vs = [.ref b] ∧ H l = some (.lst xs) ∧ (SqL K H b zs ∨ SqT K H b zs) ∧ xs.length + zs.length ≤ sizeLine ∧ Q .non (upd H l (.lst (xs ++ zs)))
theorem mt_extA : MtM X "list.extend" (rExtA X.K) := by
  intro pins s σ H x vs v us Q I rx rv h
  obtain ⟨l, b, xs, zs, rfl, rfl, hl, hb, hz, q⟩ := h
  cases rx
  obtain ⟨u, rfl, ru⟩ := rv.one
  cases ru
  obtain ⟨z, i1, n1, r1, l1, g1⟩ := I.lstM hl
  have small : Builtin.List.listTooLong (xs.length + zs.length) = false := notLongL hz
  have fin : ∀ i2 : List Value, Vals zs i2 → ¬(!i1.toArray.isEmpty && Builtin.List.listTooLong (i1.toArray.size + i2.toArray.size)) = true ∧ (i1.toArray ++ i2.toArray).size ≤ sizeLine + 1 ∧ i1.toArray.size ≤ sizeLine ∧
      wants (EP X pins σ Q) X.xe (.ok (.ret Value.none)) { s with heap := s.heap.update l (Obj.mapSeq fun x => x ++ i2.toArray), toks := s.toks } := fun i2 r2 => by
    have l2 := r2.length
    have e : i1.toArray.size + i2.toArray.size = xs.length + zs.length := by rw [List.size_toArray, List.size_toArray, l1, l2]
    refine ⟨by rw [e, small, Bool.and_false]; exact Bool.false_ne_true, by rw [Array.size_append, e]; omega, by rw [List.size_toArray]; omega, .non, _, I.lset (its' := i1 ++ i2) hl g1 (by simp) (r1.append r2) ?_, rfl, q⟩
    rw [List.length_append]
    omega
  rcases hb with hb | hb
  · obtain ⟨i2, r2, ⟨⟨c2, d2, t2, s2⟩, n2, g2, k2, _, e2⟩, _⟩ := I.list hb
    dsimp only at k2 e2
    subst k2; subst e2
    obtain ⟨f1, f2, f3, f4⟩ := fin i2 r2
    exact call_meets F.slot_list_extend ⟨_, g1, rfl⟩ F.entry_list_extend (F.args_list_extend_2 _ _) (meets_extL l i1.toArray n1 b i2.toArray n2 d2 s2 f1 f3 f2) ⟨g1, g2, f4⟩
  · obtain ⟨i2, r2, ⟨⟨c2, d2, t2, s2⟩, g2, k2, n2, e2⟩, _⟩ := I.tuple hb
    dsimp only at k2 e2
    subst k2; subst e2
    obtain ⟨f1, f2, f3, f4⟩ := fin i2 r2
    exact call_meets F.slot_list_extend ⟨_, g1, rfl⟩ F.entry_list_extend (F.args_list_extend_2 _ _) (meets_extT l i1.toArray n1 b i2.toArray n2 d2 s2 f1 f3 f2) ⟨g1, g2, f4⟩
end
end GX
set_option Elab.async false
set_option linter.all false
set_option maxRecDepth 100000
set_option maxHeartbeats 2000000
/-! GX11: sums of lists, own objects and dicts, instances made, called, measured; targets that are tuples. -/
namespace GX
open PySem L2
section
variable {W : Wd} {S T : Addr → Prop} {G H G1 H1 G2 H2 : Hp} {p x : Addr}
theorem Ch.new_of (c : Ch W S G H G1 H1) (h : H1 p = none) : H p = none := by
  cases e : H p with
  | none => rfl
  | some o => exact absurd h (c.th p (by rw [e]; exact fun z => nomatch z))
/-- what a def leaves that may change S, seen from any world -/
theorem Ch.upS (k : Ok W G H) (c : Ch W0 S G H G1 H1) (hs : ∀ a, S a → ¬ W.M a) : Ch W S G H G1 H1 :=
  ⟨fun a o _ s h => c.hh a o (fun z => z) s h, c.gg, c.fr, c.th, c.ok.gh, W.st H H1 (fun a m => by
    cases q : H a with
    | none => exact absurd q (W.tr H k.j a m)
    | some o => exact c.hh a o (fun z => z) (fun z => hs a z m) q) k.j, fun a m => c.fr a (W.tr H k.j a m) (k.gm a m)⟩
/-- S's objects were made meanwhile -/
theorem Ch.loc0 (a : Ch W N0 G H G1 H1) (b : Ch W S G1 H1 G2 H2) (h : ∀ x, S x → H x = none) : Ch W N0 G H G2 H2 := a.loc b fun x s => .inr (h x s)
end
section
variable {X : Cx} {W : Wd} {e a b c it tg : Expr} {es ifs : List Expr} {σ : St} {G H G1 H1 : Hp} {P P1 P2 : D → Prop} {pos p pos2 : Pos} {l : Addr} {ds L M : List D} {D0 : Ends} {rest body orelse : List Stmt} {st : Stmt}
/-! ### lists -/
theorem en_addL {es' : List D} (ha : Ev X W a σ G H (· = .lst ds)) (hb : Ev X W b σ G H (· = .lst es')) (hz : ds.length + es'.length ≤ 1000000) : EvN X W (.BinOp a .Add b pos) σ G H (· = ds ++ es') := fun G1 H1 c Q q =>
  semE_of (pe_op op_addL pe_sem pe_sem) (ha G1 H1 c _ fun x d1 G2 H2 c2 e1 r1 => hb G2 H2 (c.trans c2) _ fun y d2 G3 H3 c3 e2 r2 => by
    subst e1; subst e2
    obtain ⟨a, xs, rfl, h1, s1⟩ := (r1.mono c3.gg).lst_v
    obtain ⟨b, ys, rfl, h2, s2⟩ := r2.lst_v
    refine ⟨a, b, xs, ys, rfl, rfl, c3.ok.gh.l h1, c3.ok.gh.l h2, by rw [s1.length, s2.length, sizeLine_eq]; omega, fun p hp => ?_⟩
    have cn : Ch W N0 G3 H3 G3 (upd H3 p (.lst (xs ++ ys))) := Ch.own c3.ok hp
    exact q p _ _ _ _ ((c2.trans c3).trans cn) ((c2.trans c3).new_of hp) (c3.ok.gnone hp) (c3.ok.nm hp) upd_same (s1.append s2) rfl)
/-- l.extend(m), m known data -/
theorem q_extD {x : Str} {i : Nat} {apos : Pos} {d : D} {ds2 : List D} (k : Ok W G H) (o : OwnL X.K X.mg W G H l ds) (hs : σ[i]? = some (some (.ref l)) := by rfl) (h : Ev X W e σ G H (· = d)) (hd : seq? d = some ds2) (hz : ds.length + ds2.length < 10000000) (cont : ∀ G1 H1, Ch W (fun a => a = l) G H G1 H1 → OwnL X.K X.mg W G1 H1 l (ds ++ ds2) → semB X rest D0 σ H1)
    (hN : X.N[i]? = some x := by rfl) (hv : Vis X.env.scope x := by first | exact Or.inl rfl | exact Or.inr (Or.inl rfl) | exact Or.inr (Or.inr rfl)) (hdb : (x == ("__debug__" : Str)) = false := by decide) (hcd : (x == ("__classdict__" : Str)) = false := by decide)
    (he : starEach [e] X.env = (false, eval e X.env) :: starEach [] X.env := by rfl) (hfw : Few X [e] pos2 := by rfl) (hli : (apos.endLine == pos2.line) = true := by rfl) (hsw : swapsWith (.Call (.Attribute (.Name x p) "extend" apos) [e] [] pos2) none pos.line X.env = pure false := by rfl) : semB X (.Expr (.Call (.Attribute (.Name x p) "extend" apos) [e] [] pos2) pos :: rest) D0 σ H := by
  obtain ⟨vs, h1, h2⟩ := o.ex
  refine q_dropE (semE_of (pe_bm PySem.F.plainAttrs_list PySem.F.slot_list_extend PySem.F.type_list_extend mt_extA pe_sem (pa_cons pe_sem pa_nil he) rfl hfw hli he rfl) (semE_v i hs ?_ hN hv hdb hcd)) hsw
  refine ⟨.inl ⟨rfl, vs, SqL.of h1⟩, h G H (Ch.refl k) _ fun v d' G1 H1 c e r => ?_⟩
  subst e
  obtain ⟨q, ws, rfl, hq, n5⟩ := r.seq hd
  have h1' := c.hh l _ o.m (fun z => z) h1
  refine ⟨l, q, vs, ws, rfl, rfl, h1', c.ok.gh.s hq, by rw [h2.length, n5.length, sizeLine_eq]; omega, ?_⟩
  have cw : Ch W (fun a => a = l) G1 H1 G1 (upd H1 l (.lst (vs ++ ws))) := Ch.write c.ok (c.fr l o.tr o.g) o.m rfl
  exact cont _ _ (c.of0.trans cw) ⟨c.fr l o.tr o.g, o.m, _, upd_same, (h2.mono c.gg).append n5⟩
theorem Ok.knm {a : Addr} {o : HO} (k : Ok W G H) (h : G a = some o) : ¬ W.M a := fun m => by
  rw [k.gm a m] at h
  cases h
/-! ### own dicts -/
structure OwnK (K : PySem.W.Frag) (mg : Str → Option Value) (W : Wd) (G H : Hp) (l : Addr) (ds : List (Key × D)) : Prop where
  g : G l = none
  m : ¬ W.M l
  ex : ∃ vs, H l = some (.dK vs) ∧ RpK K mg G vs ds
theorem OwnK.tr {K : PySem.W.Frag} {mg : Str → Option Value} {ds : List (Key × D)} (o : OwnK K mg W G H l ds) : H l ≠ none := by
  obtain ⟨vs, h, _⟩ := o.ex
  rw [h]; exact fun z => nomatch z
theorem OwnK.ch {K : PySem.W.Frag} {mg : Str → Option Value} {ds : List (Key × D)} {S : Addr → Prop} (o : OwnK K mg W G H l ds) (c : Ch W S G H G1 H1) (h : ¬ S l) : OwnK K mg W G1 H1 l ds := by
  obtain ⟨vs, h1, h2⟩ := o.ex
  exact ⟨c.fr l o.tr o.g, o.m, vs, c.hh l _ o.m h h1, h2.mono c.gg⟩
theorem OwnK.ch0 {K : PySem.W.Frag} {mg : Str → Option Value} {ds : List (Key × D)} (o : OwnK K mg W G H l ds) (c : Ch W N0 G H G1 H1) : OwnK K mg W G1 H1 l ds := o.ch c fun z => z
/-- l[k] of one's own dict -/
theorem OwnK.get {ds : List (Key × D)} {k : Key} {d : D} {ib : Nat} {x : Str} (hu : X.A.units + 1 < cLine) (o : OwnK X.K X.mg W G H l ds) (hs : σ[ib]? = some (some (.ref l))) (hb : Ev X W b σ G H (· = keyD k)) (h : dGet ds k = some d) (hN : X.N[ib]? = some x := by rfl) (hv : Vis X.env.scope x := by first | exact Or.inl rfl | exact Or.inr (Or.inl rfl) | exact Or.inr (Or.inr rfl)) (hx : NoSl b := by exact fun _ _ => rfl) (hd : (x == ("__debug__" : Str)) = false := by decide) (hcd : (x == ("__classdict__" : Str)) = false := by decide) : Ev X W (.Subscript (.Name x p) b pos) σ G H (· = d) := fun G1 H1 c Q q => by
  obtain ⟨vs, h1, h2⟩ := o.ex
  obtain ⟨v, hv', rv⟩ := h2.val.1 d h
  refine semE_of (pe_dget hu pe_sem pe_sem hx) (semE_v ib hs ?_ hN hv hd hcd)
  refine hb G1 H1 c _ fun y d2 G2 H2 c2 e r2 => ?_
  subst e
  refine ⟨l, v, rfl, ?_, q v d G2 H2 c2 rfl (rv.mono (c.trans c2).gg)⟩
  rw [r2.key, ← hv']
  exact DGet.k ((c.trans c2).hh l _ o.m (fun z => z) h1)
theorem RpK.put {K : PySem.W.Frag} {mg : Str → Option Value} {k : Key} {v : V} {d : D} (r : Rp K mg G v d) : ∀ {vs : List (Key × V)} {ds : List (Key × D)}, RpK K mg G vs ds → RpK K mg G (putK vs k v) (dPut ds k d) := by
  have anyE : ∀ {vs : List (Key × V)} {ds : List (Key × D)}, RpK K mg G vs ds → (vs.any fun q => decide (q.1 = k)) = ds.any fun q => decide (q.1 = k) := by
    intro vs ds h
    induction vs generalizing ds with
    | nil => cases h; rfl
    | cons a vs ih => cases h with | cons r s => simp only [List.any_cons, ih s]
  have mapE : ∀ {vs : List (Key × V)} {ds : List (Key × D)}, RpK K mg G vs ds → RpK K mg G (vs.map fun q => if q.1 = k then (q.1, v) else q) (ds.map fun q => if q.1 = k then (q.1, d) else q) := by
    intro vs ds h
    induction vs generalizing ds with
    | nil => cases h; exact .nil
    | cons a vs ih =>
      cases h with
      | cons r1 s =>
        rw [List.map_cons, List.map_cons]
        dsimp only
        split
        · exact .cons r (ih s)
        · exact .cons r1 (ih s)
  have appE : ∀ {vs : List (Key × V)} {ds : List (Key × D)}, RpK K mg G vs ds → RpK K mg G (vs ++ [(k, v)]) (ds ++ [(k, d)]) := by
    intro vs ds h
    induction vs generalizing ds with
    | nil => cases h; exact .cons r .nil
    | cons a vs ih => cases h with | cons r1 s => exact .cons r1 (ih s)
  intro vs ds h
  unfold putK dPut
  rw [anyE h]
  split
  · exact mapE h
  · exact appE h
/-- l[k] = e, of one's own dict -/
theorem q_dput {ds : List (Key × D)} {k : Key} {ib : Nat} {x : Str} {pt : Pos} {i : Expr} (kk : Ok W G H) (hu : X.A.units + 1 < cLine) (o : OwnK X.K X.mg W G H l ds) (hz : ds.length < 10000) (h : Ev X W e σ G H P) (hi : ∀ G1 H1, Ch W N0 G H G1 H1 → Ev X W i σ G1 H1 (· = keyD k)) (cont : ∀ d G1 H1, Ch W (fun a => a = l) G H G1 H1 → P d → OwnK X.K X.mg W G1 H1 l (dPut ds k d) → semB X rest D0 σ H1)
    (hs : σ[ib]? = some (some (.ref l)) := by rfl) (hN : X.N[ib]? = some x := by rfl) (hv : Vis X.env.scope x := by first | exact Or.inl rfl | exact Or.inr (Or.inl rfl) | exact Or.inr (Or.inr rfl)) (hd : (x == ("__debug__" : Str)) = false := by decide) (hcd : (x == ("__classdict__" : Str)) = false := by decide)
    (hsw : swapsWith e (some (.Subscript (.Name x p) i pt)) pos.line X.env = pure false := by rfl) : semB X (.Assign [.Subscript (.Name x p) i pt] e pos :: rest) D0 σ H := by
  refine q_cons (ps_dput hu pe_sem pe_sem pe_sem hsw) (h G H (Ch.refl kk) _ fun v d G1 H1 c pd r => semE_v ib hs ?_ hN hv hd hcd)
  refine hi G1 H1 c G1 H1 (Ch.refl c.ok) _ fun y d2 G2 H2 c2 e2 r2 => ?_
  subst e2
  have o2 := o.ch0 (c.trans c2)
  obtain ⟨vs, h1, h2⟩ := o2.ex
  have hl : vs.length = ds.length := by
    have : ∀ {vs : List (Key × V)} {ds : List (Key × D)}, RpK X.K X.mg G2 vs ds → vs.length = ds.length := by
      intro vs ds h
      induction vs generalizing ds with
      | nil => cases h; rfl
      | cons a vs ih => cases h with | cons r s => simp [ih s]
    exact this h2
  refine ⟨l, _, rfl, by rw [r2.key]; exact DPut.k h1 (by rw [hl, sizeLine_eq]; omega), ?_⟩
  have cw : Ch W (fun a => a = l) G2 H2 G2 (upd H2 l (.dK (putK vs k v))) := Ch.write c2.ok o2.g o2.m rfl
  exact cont d _ _ ((c.trans c2).of0.trans cw) pd ⟨o2.g, o2.m, _, upd_same, RpK.put (r.mono c2.gg) h2⟩
/-- one's own dict becomes known -/
theorem OwnK.fz {ds : List (Key × D)} {K : PySem.W.Frag} {mg : Str → Option Value} (o : OwnK K mg W G H l ds) (k : Ok W G H) : ∃ G2, Ok W G2 H ∧ Rp K mg G2 (.ref l) (.dic ds) ∧ Ext G G2 ∧ (∀ a, a ≠ l → G a = none → G2 a = none) := by
  obtain ⟨vs, h1, h2⟩ := o.ex
  have e : Ext G (upd G l (.dK vs)) := fun a u z => by rw [upd_ne (ne_of_none z o.g)]; exact z
  refine ⟨upd G l (.dK vs), ⟨fun a u z => ?_, k.j, fun a m => ?_⟩, .dic upd_same (h2.mono e), e, fun a ha g => by rw [upd_ne ha]; exact g⟩
  · by_cases q : a = l
    · subst q; rw [upd_same] at z; cases z; exact h1
    · rw [upd_ne q] at z; exact k.gh a u z
  · rw [upd_ne (fun z : a = l => o.m (by rw [← z]; exact m))]; exact k.gm a m
/-- reading one's own dict as a known one for the while -/
theorem OwnK.ev {ds : List (Key × D)} (o : OwnK X.K X.mg W G H l ds) (k : Ok W G H) (t : ∀ G', Ok W G' H → Ext G G' → Rp X.K X.mg G' (.ref l) (.dic ds) → Ev X W e σ G' H P) (hf : ∀ d, P d → (flat d).isSome = true) : Ev X W e σ G H P := by
  obtain ⟨vs, h1, h2⟩ := o.ex
  have ex : Ext G (upd G l (.dK vs)) := fun a u z => by rw [upd_ne (ne_of_none z o.g)]; exact z
  exact ev_thaw o.g o.m h1 (t _ (Ch.with o.g o.m h1 (Ch.refl k)).ok ex (.dic upd_same (h2.mono ex))) hf
/-! ### own objects -/
structure OwnO (K : PySem.W.Frag) (mg : Str → Option Value) (W : Wd) (G H : Hp) (x C dx : Addr) (ds : List (Str × D)) : Prop where
  g : G x = none
  gd : G dx = none
  m : ¬ W.M x
  md : ¬ W.M dx
  ne : dx ≠ x
  d : H dx = some (.own x)
  ex : ∃ fs, H x = some (.ins C dx fs) ∧ RpF K mg G fs ds
theorem OwnO.tr {K : PySem.W.Frag} {mg : Str → Option Value} {x C dx : Addr} {ds : List (Str × D)} (o : OwnO K mg W G H x C dx ds) : H x ≠ none ∧ H dx ≠ none := by
  obtain ⟨vs, h, _⟩ := o.ex
  exact ⟨by rw [h]; exact (fun z => nomatch z), by rw [o.d]; exact (fun z => nomatch z)⟩
theorem OwnO.ch {K : PySem.W.Frag} {mg : Str → Option Value} {x C dx : Addr} {ds : List (Str × D)} {S : Addr → Prop} (o : OwnO K mg W G H x C dx ds) (c : Ch W S G H G1 H1) (h : ¬ S x) (h' : ¬ S dx) : OwnO K mg W G1 H1 x C dx ds := by
  obtain ⟨vs, h1, h2⟩ := o.ex
  exact ⟨c.fr x o.tr.1 o.g, c.fr dx o.tr.2 o.gd, o.m, o.md, o.ne, c.hh dx _ o.md h' o.d, vs, c.hh x _ o.m h h1, h2.mono c.gg⟩
theorem OwnO.ch0 {K : PySem.W.Frag} {mg : Str → Option Value} {x C dx : Addr} {ds : List (Str × D)} (o : OwnO K mg W G H x C dx ds) (c : Ch W N0 G H G1 H1) : OwnO K mg W G1 H1 x C dx ds := o.ch c (fun z => z) fun z => z
def fPut (f : Str) (d : D) : List (Str × D) → List (Str × D)
  | [] => [(f, d)]
  | (g, y) :: r => if g = f then (g, d) :: r else (g, y) :: fPut f d r
theorem RpF.put {K : PySem.W.Frag} {mg : Str → Option Value} {f : Str} {v : V} {d : D} (r : Rp K mg G v d) : ∀ {vs : List (Str × V)} {ds : List (Str × D)}, RpF K mg G vs ds → RpF K mg G (putF f v vs) (fPut f d ds)
  | _, _, .nil => .cons r .nil
  | _, _, .cons (k := g) r1 s => by
    unfold putF fPut
    by_cases h : g = f
    · rw [if_pos h, if_pos h]; exact .cons r s
    · rw [if_neg h, if_neg h]; exact .cons r1 (RpF.put r s)
theorem RpF.length {K : PySem.W.Frag} {mg : Str → Option Value} : ∀ {vs : List (Str × V)} {ds : List (Str × D)}, RpF K mg G vs ds → vs.length = ds.length
  | _, _, .nil => rfl
  | _, _, .cons _ s => congrArg (· + 1) s.length
/-- x.f = e, x one's own -/
theorem q_fld {x C dx : Addr} {ds : List (Str × D)} {y f : Str} {ib : Nat} {pt : Pos} (kk : Ok W G H) (o : OwnO X.K X.mg W G H x C dx ds) (hz : ds.length < 100) (cl : Cls X.K C) (na : NoAttr X.K C f) (h : Ev X W e σ G H P) (cont : ∀ d G1 H1, Ch W (fun a => a = x) G H G1 H1 → P d → OwnO X.K X.mg W G1 H1 x C dx (fPut f d ds) → semB X rest D0 σ H1)
    (hs : σ[ib]? = some (some (.ref x)) := by rfl) (hN : X.N[ib]? = some y := by rfl) (hv : Vis X.env.scope y := by first | exact Or.inl rfl | exact Or.inr (Or.inl rfl) | exact Or.inr (Or.inr rfl)) (hd : (y == ("__debug__" : Str)) = false := by decide) (hcd : (y == ("__classdict__" : Str)) = false := by decide)
    (hsw : swapsWith e (some (.Attribute (.Name y p) f pt)) pos.line X.env = pure false := by rfl) : semB X (.Assign [.Attribute (.Name y p) f pt] e pos :: rest) D0 σ H := by
  refine q_cons (ps_fld pe_sem pe_sem hsw) (h G H (Ch.refl kk) _ fun v d G1 H1 c pd r => semE_v ib hs ?_ hN hv hd hcd)
  have o1 := o.ch0 c
  obtain ⟨fs, h1, h2⟩ := o1.ex
  refine ⟨x, C, dx, fs, rfl, h1, cl, na, by rw [h2.length]; omega, ?_⟩
  have cw : Ch W (fun a => a = x) G1 H1 G1 (upd H1 x (.ins C dx (putF f v fs))) := Ch.write c.ok o1.g o1.m rfl
  refine cont d _ _ (c.of0.trans cw) pd ⟨o1.g, o1.gd, o1.m, o1.md, o1.ne, by rw [upd_ne o1.ne]; exact o1.d, _, upd_same, h2.put r⟩
/-- one's own object becomes known -/
theorem OwnO.fz {S : Addr → Prop} {K : PySem.W.Frag} {mg : Str → Option Value} {x C dx : Addr} {cn : Str} {ds : List (Str × D)} (o : OwnO K mg W G1 H1 x C dx ds) (c : Ch W S G H G1 H1) (hx : H x = none) (hdx : H dx = none) (hC : mg cn = some (.ref C)) : ∃ G2, Ch W S G H G2 H1 ∧ Rp K mg G2 (.ref x) (.ins cn ds) := by
  obtain ⟨fs, h1, h2⟩ := o.ex
  have c1 := c.freeze hdx o.d o.gd o.md
  have g1 : upd G1 dx (.own x) x = none := by rw [upd_ne (fun z : x = dx => o.ne z.symm)]; exact o.g
  have c2 := c1.freeze hx h1 g1 o.m
  have e : Ext G1 (upd (upd G1 dx (.own x)) x (.ins C dx fs)) := fun a u z => by
    rw [upd_ne (ne_of_none z o.g), upd_ne (ne_of_none z o.gd)]; exact z
  exact ⟨_, c2, .ins hC upd_same (by rw [upd_ne o.ne]; exact upd_same) (h2.mono e)⟩
/-- a class by its __init__: F ds fs, called with ds the new object has the fields fs -/
def SpI (K : PySem.W.Frag) (mg : Str → Option Value) (C : Addr) (F : List D → List (Str × D) → Prop) : Sp := fun vs H Q _ => ∃ x dx us G ds fs, vs = .ref x :: us ∧ Ok W0 G H ∧ OwnO K mg W0 G H x C dx [] ∧ RpA K mg G us ds ∧ F ds fs ∧
  ∀ G1 H1, Ch W0 (fun a => a = x) G H G1 H1 → OwnO K mg W0 G1 H1 x C dx fs → Q .non H1
structure CalI (P : Program) (w : World) (K : PySem.W.Frag) (mg : Str → Option Value) (base : Heap) (x : Str) (C : Addr) (k : Nat) (ps : List Str) (F : List D → List (Str × D) → Prop) : Prop where
  ex : ∃ (f : Addr) (fd : FuncData), FnOk P w K mg base CX0 k f fd ps (SpI K mg C F) ∧ mg x = some (.ref C) ∧ Mk K C f ∧ Binds K fd ps []
theorem ev_make {x : Str} {C : Addr} {k : Nat} {ps : List Str} {F : List D → List (Str × D) → Prop} {ds : List D} {fs : List (Str × D)} (cal : CalI X.prog X.w X.K X.mg X.base x C k ps F) (hr : Room (k + 1) X.A) (ha : EvA X W (e :: es) σ G H (· = ds)) (hF : F ds fs) (hg : Gl X x := by rfl)
    (hdb : (x == ("__debug__" : Str)) = false := by decide) (he : starEach (e :: es) X.env = (false, eval e X.env) :: starEach es X.env := by rfl) (hpl : (backTo pos (starEach es X.env)).any (·.1) = false := by rfl) :
    Ev X W (.Call (.Name x p) (e :: es) [] pos) σ G H (· = .ins x fs) := fun G1 H1 c Q q => by
  obtain ⟨f, fd, Fn, hm, mk, hb⟩ := cal.ex
  refine semE_of (pe_make mk Fn hr hg hm hb .nil pass0 pa_sem hdb he hpl) (ha G1 H1 c _ fun vs ds' G2 H2 c2 e r => ?_)
  subst e
  intro x0 dx hx hdx hne
  show SpI X.K X.mg C F (.ref x0 :: (vs ++ [])) _ _ _
  rw [List.append_nil]
  have cA : Ch W0 N0 G2 H2 G2 (upd H2 dx (.own x0)) := Ch.own c2.ok.down hdx
  have hx' : upd H2 dx (.own x0) x0 = none := by rw [upd_ne (fun z : x0 = dx => hne z.symm)]; exact hx
  have cB : Ch W0 N0 G2 (upd H2 dx (.own x0)) G2 (upd (upd H2 dx (.own x0)) x0 (.ins C dx [])) := Ch.own cA.ok hx'
  have gx := c2.ok.gnone hx
  have gdx := c2.ok.gnone hdx
  refine ⟨x0, dx, vs, G2, ds', fs, rfl, (cA.trans cB).ok, ⟨gx, gdx, fun z => z, fun z => z, hne, by rw [upd_ne hne]; exact upd_same, [], upd_same, .nil⟩, r, hF, fun G3 H3 c3 o3 => ⟨rfl, ?_⟩⟩
  have mx := c2.ok.nm hx
  have mdx := c2.ok.nm hdx
  have cAW : Ch W N0 G2 H2 G2 (upd H2 dx (.own x0)) := Ch.own c2.ok hdx
  have cBW : Ch W N0 G2 (upd H2 dx (.own x0)) G2 (upd (upd H2 dx (.own x0)) x0 (.ins C dx [])) := Ch.own cAW.ok hx'
  have c3W := Ch.upS (cAW.trans cBW).ok c3 (fun a e => by rw [e]; exact mx)
  have cc : Ch W N0 G1 H1 G3 H3 := (c2.trans (cAW.trans cBW)).loc0 c3W fun a e => by rw [e]; exact c2.new_of hx
  have oW : OwnO X.K X.mg W G3 H3 x0 C dx fs := ⟨o3.g, o3.gd, mx, mdx, o3.ne, o3.d, o3.ex⟩
  obtain ⟨G4, c4, r4⟩ := oW.fz cc (c2.new_of hx) (c2.new_of hdx) hm
  exact q _ _ G4 H3 c4 rfl r4
/-! ### methods of instances -/
structure CalM (P : Program) (w : World) (K : PySem.W.Frag) (mg : Str → Option Value) (base : Heap) (cn m : Str) (k : Nat) (ps : List Str) (F : List D → D → Prop) : Prop where
  ex : ∃ (C f : Addr) (fd : FuncData), FnOk P w K mg base CX0 k f fd ps (SpD K mg F) ∧ mg cn = some (.ref C) ∧ Cls K C ∧ Meth K C m f ∧ Binds K fd ps []
theorem RpF.nolook {K : PySem.W.Frag} {mg : Str → Option Value} {f : Str} : ∀ {vs : List (Str × V)} {ds : List (Str × D)}, RpF K mg G vs ds → ds.lookup f = none → vs.lookup f = none
  | _, _, .nil, _ => rfl
  | _, _, .cons (k := k) r s, e => by
    rw [List.lookup_cons] at e ⊢
    cases q : (f == k) with
    | true => rw [q] at e; cases e
    | false => rw [q] at e; exact s.nolook e
theorem ev_meth0 {cn m : Str} {k : Nat} {ps : List Str} {F : List D → D → Prop} {fs : List (Str × D)} {d : D} {apos : Pos} (cal : CalM X.prog X.w X.K X.mg X.base cn m k ps F) (hr : Room k X.A) (ha : Ev X W a σ G H (· = .ins cn fs)) (hm : fs.lookup m = none) (hF : F [.ins cn fs] d)
    {pl : Sem Bool} (ht : eval (.Call (.Attribute a m apos) [] [] pos) X.env = (do
      let ov ← eval a X.env
      standAt apos.atName
      let (f, first) ← holding [ov] (getMethod ov m pl)
      callWith pos f first (backTo pos (starEach [] X.env)) (backToKw pos (keywordEach [] X.env))) := by rfl) : Ev X W (.Call (.Attribute a m apos) [] [] pos) σ G H (· = d) := fun G1 H1 c Q q => by
  obtain ⟨C, f, fd, Fn, hC, hc, me, hb⟩ := cal.ex
  refine semE_of (pe_meth0 (pl := pl) pe_sem hc me Fn hr hb .nil pass0 ht) (ha G1 H1 c _ fun v d' G2 H2 c2 e r => ?_)
  subst e
  cases r with
  | ins h1 h2 h3 h4 =>
    rw [hC] at h1
    cases h1
    exact ⟨_, _, _, rfl, c2.ok.gh _ _ h2, h4.nolook hm, G2, [.ins cn fs], d, c2.ok.down, .cons (.ins hC h2 h3 h4) .nil, hF, fun v G3 H3 c3 r3 => q v d G3 H3 (c2.trans (Ch.up c2.ok c3)) rfl r3⟩
/-- len(x), x an instance whose class has __len__ -/
theorem cr_lenI {cn : Str} {k : Nat} {ps : List Str} {F : List D → D → Prop} (cal : CalM X.prog X.w X.K X.mg X.base cn "__len__" k ps F) (hr : Room (k + 1) X.A) : CallR X (.builtin "len") (fun xs H Q => ∃ x G fs i, xs = [x] ∧ Ok W0 G H ∧ Rp X.K X.mg G x (.ins cn fs) ∧ 0 ≤ i ∧ i < 2 ^ 63 ∧ F [.ins cn fs] (.int i) ∧
    ∀ G1 H1, Ch W0 N0 G H G1 H1 → Q (.int i) H1) := by
  intro pins s σ H xs us Q I r h
  obtain ⟨x, G, fs, i, rfl, ko, rx, h0, h1, hF, q⟩ := h
  obtain ⟨u, rfl, ru⟩ := vals1 r
  obtain ⟨C, f, fd, Fn, hC, hc, me, hb⟩ := cal.ex
  cases rx with
  | @ins a' C' dx _ vs _ e1 e2 e3 e4 =>
    rw [hC] at e1
    cases e1
    obtain rfl : u = .ref a' := ru
    obtain ⟨mA, O, rel, _, _, _⟩ := ins_get I.hok (ko.gh _ _ e2)
    obtain ⟨od, IA, hlook⟩ := O.look
    have bd := hb s [.ref a'] I.kIn (Fn.len [.ref a'] H (fun _ _ => True) (fun _ _ _ => False) ⟨G, [.ins cn fs], .int i, ko, .cons (.ins hC e2 e3 e4) .nil, hF, fun _ _ _ _ _ => trivial⟩)
    refine PySem.Calls.call_function_entry kind_len plain_len entry_len (args_len1 _) ?_
    unfold Builtin.«len»
    refine wpAny_bind (m := oneArg "len" _) (wpAny_pure ?_)
    have run := Fn.run X.A.in1 X.stack s H ⟨[.ref a'], []⟩ [.ref a'] [.ref a'] (fun v H1 => v = .int i ∧ Q (.int i) H1) (fun _ _ _ => False) hr.in1 I.env0.in1 bd (.cons rfl .nil) ⟨G, [.ins cn fs], .int i, ko, .cons (.ins hC e2 e3 e4) .nil, hF, fun v G1 H1 c rv => ⟨rv.int_v, q G1 H1 c⟩⟩
    refine wpAny_bind (m := callSpecial? (.ref a') (Str.ofString "__len__")) (PySem.W.special_fn I.kIn IA me.at_ (beq_iff_eq.mp me.fn) (wpAny_call (codeAny_mono run fun r s2 hq => ?_)))
    match r, hq with
    | .error e, hq => exact False.elim (show False from hq)
    | .ok .next, hq => exact False.elim hq
    | .ok .brk, hq => exact False.elim hq
    | .ok .cont, hq => exact False.elim hq
    | .ok (.ret u), hq =>
      obtain ⟨v, H2, os, bare, un, hok, rv, e, q2⟩ := hq
      subst e
      obtain ⟨t, rfl⟩ := rv
      have I2 : EP X pins σ (fun v H3 => v = .int i ∧ Q (.int i) H3) (.int i t) s2 := I.after ⟨.int i, H2, os, bare, un, hok, ⟨t, rfl⟩, rfl, q2⟩
      refine wpAny_bind (wpAny_holding (wpAny_pure ?_))
      refine wpAny_bind (wpAny_letGo ?_)
      show wpAny _ _ (if i < 0 then _ else _) _ _ _
      rw [if_neg (by omega)]
      show wpAny _ _ (if i ≥ 2 ^ 63 then _ else _) _ _ _
      rw [if_neg (by omega)]
      refine wpAny_bind (wpAny_mkInt (wpAny_pure ⟨_, rfl, ?_⟩))
      obtain ⟨v3, H3, I3, rv3, _, q3⟩ := I2
      exact ⟨.int i, H3, I3.tok _, ⟨_, rfl⟩, q3⟩
theorem ev_lenI {cn : Str} {k : Nat} {ps : List Str} {F : List D → D → Prop} {fs : List (Str × D)} {i : Int} (cal : CalM X.prog X.w X.K X.mg X.base cn "__len__" k ps F) (hr : Room (k + 1) X.A) (hm : X.mg "len" = none) (ha : Ev X W a σ G H (· = .ins cn fs)) (hF : F [.ins cn fs] (.int i)) (h0 : 0 ≤ i) (h1 : i < 2 ^ 63)
    (hg : Gl X "len" := by rfl) (hs : starEach [a] X.env = (false, eval a X.env) :: starEach [] X.env := by rfl) : Ev X W (.Call (.Name "len" p) [a] [] pos) σ G H (· = .int i) := fun G1 H1 c Q q =>
  semE_of (pe_callB (cr_lenI cal hr) hg hm boot_len (pa_cons pe_sem pa_nil hs) (by decide) (by decide) hs) (ha G1 H1 c _ fun v d' G2 H2 c2 e r => by
    subst e
    exact ⟨v, G2, fs, i, rfl, c2.ok.down, r, h0, h1, hF, fun G3 H3 c3 => q _ _ G3 H3 (c2.trans (Ch.up c2.ok c3)) rfl (.int i)⟩)
/-! ### isinstance of an own class -/
def isiB (K : PySem.W.Frag) (C : Addr) : Bool := PySem.W.plainGet K C Str.empty && (PySem.W.hasDictIn K C && (PySem.W.plainOver K C && (He.eqO (PySem.W.findIn K (.ref C) "__setattr__") (some (some (.builtin "object.__setattr__"))) &&
  (He.eqO (PySem.W.findIn K (.ref C) "__class__") (some (some (.builtin "object.__class__"))) && (He.eqO (PySem.W.specialIn K (.builtin "object.__class__") "__get__") (some (some (.builtin "getset_descriptor.__get__"))) &&
  (decide (PySem.W.takesIn K (.builtin "object.__class__") = some true) && decide (PySem.W.mroIn K C (.type "object") = some true)))))))
theorem isi_ok {K : PySem.W.Frag} {C : Addr} (h : isiB K C = true) : ClsI K C := by
  unfold isiB at h
  simp only [Bool.and_eq_true, decide_eq_true_eq] at h
  obtain ⟨h1, h2, h3, h4, h5, h6, h7, h8⟩ := h
  exact ⟨⟨h1, h2, h3, He.eqO_ok h4⟩, He.eqO_ok h5, He.eqO_ok h6, h7, h8⟩
theorem ev_isIns {cn : Str} {C : Addr} {fs : List (Str × D)} {q2 : Pos} (hm : X.mg "isinstance" = none) (hC : X.mg cn = some (.ref C)) (hi : ClsI X.K C) (ha : Ev X W a σ G H (· = .ins cn fs)) (hg : Gl X "isinstance" := by rfl) (hgT : Gl X cn := by rfl) (hdb : (cn == ("__debug__" : Str)) = false := by decide)
    (he : starEach [a, .Name cn q2] X.env = (false, eval a X.env) :: starEach [.Name cn q2] X.env := by rfl) (he2 : starEach [.Name cn q2] X.env = (false, eval (.Name cn q2) X.env) :: starEach [] X.env := by rfl) (hpl : (backTo pos (starEach [.Name cn q2] X.env)).any (·.1) = false := by rfl) :
    Ev X W (.Call (.Name "isinstance" p) [a, .Name cn q2] [] pos) σ G H (· = .bl true) := fun G1 H1 c Q q =>
  semE_of (pe_callB call_isi hg hm (by decide +kernel) (pa_cons pe_sem (pa_cons (pe_glob (v := .ref C) hgT hC rfl hdb) pa_nil he2) he) (by decide) (by decide) he hpl) (ha G1 H1 c _ fun v d' G2 H2 c2 e r => by
    subst e
    cases r with
    | ins h1 h2 h3 h4 =>
      rw [hC] at h1
      cases h1
      refine ⟨_, .ref C, .ref C, .ref C, true, rfl, .own C, .base (.ins (c2.ok.gh _ _ h2) hi.cl hi.ha hi.hn hi.htk hi.hm), ?_, q _ _ G2 H2 c2 rfl (.bl true)⟩
      unfold PySem.W.kitOne
      rw [if_pos (by simp)])
end
end GX
set_option Elab.async false
set_option linter.all false
set_option maxRecDepth 100000
set_option maxHeartbeats 2000000
/-! GX12: keywords, tuple targets of comprehensions, dict comprehensions, dict(pairs), slices. -/
namespace GX
open PySem L2
section
variable {X : Cx} {W : Wd} {e a b c it tg : Expr} {es ifs : List Expr} {σ : St} {G H G1 H1 : Hp} {P P1 P2 : D → Prop} {pos p pos2 : Pos} {l : Addr} {ds L M : List D} {D0 : Ends} {rest body orelse : List Stmt} {st : Stmt}
/-! ### f(k = e) -/
structure CalK (P : Program) (w : World) (K : PySem.W.Frag) (mg : Str → Option Value) (base : Heap) (x : Str) (k : Nat) (ps : List Str) (F : List D → D → Prop) : Prop where
  ex : ∃ (f : Addr) (fd : FuncData), FnOk P w K mg base CX0 k f fd ps (SpD K mg F) ∧ mg x = some (.ref f) ∧ PySem.W.keepIn K (.ref f) = true ∧ KBn K fd ps 0 ps (fun _ ws => ws) (fun _ zs => zs)
theorem ev_callK1 {x y : Str} {k : Nat} {F : List D → D → Prop} {d d1 : D} {kpos : Pos} (C : CalK X.prog X.w X.K X.mg X.base x k [y] F) (hr : Room k X.A) (ha : Ev X W e σ G H (· = d1)) (hF : F [d1] d) (hg : Gl X x := by rfl) (hdb : (x == ("__debug__" : Str)) = false := by decide)
    (hall : (backToKw pos (keywordEach [⟨some y, e, kpos⟩] X.env)).all (·.1.isSome) = true := by rfl) (hks : (backToKw pos (keywordEach [⟨some y, e, kpos⟩] X.env)).filterMap (·.1) = [y] := by rfl)
    (hpl : ((backTo pos (starEach [] X.env)).any (·.1) || (backToKw pos (keywordEach [⟨some y, e, kpos⟩] X.env)).any (·.1.isNone)) = false := by rfl) :
    Ev X W (.Call (.Name x p) [] [⟨some y, e, kpos⟩] pos) σ G H (· = d) := fun G1 H1 c Q q pins s I => by
  obtain ⟨f, fd, Fn, hm, hk, hb⟩ := C.ex
  refine wpAny_Call_Name_kw (ld_glob I hg hm ?_ hdb)
  refine PySem.W.callWith_KW0 (h₀ := X.base) I.ok.mod.kin hk hall ?_ hpl
  have run := (pk_cons (nm := some y) (kpos := kpos) (pe_sem (X := X) (e := e)) pk_nil).run pos pins s σ H1 (fun vs H2 => ∃ v G2, vs = [v] ∧ Ch W N0 G1 H1 G2 H2 ∧ Rp X.K X.mg G2 v d1) I
    (ha G1 H1 c _ fun v d2 G2 H2 c2 e2 r2 => ⟨v, G2, rfl, c2, by rw [← e2]; exact r2⟩)
  refine thn run fun ws s2 ⟨zs, H2, I2, rz, v, G2, ez, c2, r2⟩ => ⟨I2.kIn, ?_⟩
  subst ez
  rw [hks]
  exact run_fnN (us := []) (vs := []) Fn hr hb pass0 I2 .nil rz rfl rfl ⟨G2, [d1], d, c2.ok.down, .cons r2 .nil, hF, fun v G3 H3 c3 r3 => q v d G3 H3 (c2.trans (Ch.up c2.ok c3)) rfl r3⟩
/-! ### tuple targets -/
theorem g_tupV {kk : Nat} {q : Addr} {vs : List V} {Q : St → Hp → Prop} {is : List Nat} (nd : X.N.Nodup) (hc : X.calm = true) (ht : SqT X.K H q vs) (g : GNs X es is) (hl : vs.length = is.length) (h : Q (setAll σ is vs) H)
    (hn : (assignEach es X.env).length = is.length := by rfl) (hst : (assignEach es X.env).findIdx? (·.1) = none := by rfl) : semG X (.Tuple es kk p) (.ref q) σ H Q := by
  obtain ⟨t, h1, h2⟩ := g.go nd (vs := vs) (σ := σ) (Q := Q) (H := H) hl h
  exact semG_of (pg_tup hc h1 hn hst) ⟨q, vs, rfl, ht, hl, h2⟩
/-- a turn of a comprehension whose target is a tuple of names -/
theorem lcT {scope : Scope} {vs : List Nat} {elt : Expr} {keep : D → Bool} {E : D → D → Prop} {v : V} {kk : Nat} {ds : List D} {is : List Nat} (nd : X.N.Nodup) (k : Ok W G H) (r : Rp X.K X.mg G v (.tup ds)) (hl : ds.length = is.length)
    (g : ∀ s H0 C cl fp, GNs (blkX X scope s H0 C cl fp) es is)
    (hb : ∀ ws, RpA X.K X.mg G ws ds → wipe (setAll (wipe σ vs) is ws) vs = wipe σ vs ∧ ∀ s H0 C cl fp, EvTs (blkX X scope s H0 C cl fp) W ifs (setAll (wipe σ vs) is ws) G H (· = keep (.tup ds)) ∧ (keep (.tup ds) = true → Ev (blkX X scope s H0 C cl fp) W elt (setAll (wipe σ vs) is ws) G H (E (.tup ds))))
    (hc : X.calm = true := by rfl) (hn : ∀ s H0 C cl fp, (assignEach es (blkX X scope s H0 C cl fp).env).length = is.length := by intros; rfl) (hst : ∀ s H0 C cl fp, (assignEach es (blkX X scope s H0 C cl fp).env).findIdx? (·.1) = none := by intros; rfl) : LcTurn X W scope vs (.Tuple es kk p) elt ifs σ keep E v (.tup ds) G H := by
  obtain ⟨q, ws, rfl, ht, rs⟩ := r.tup_v
  obtain ⟨h1, h2⟩ := hb ws rs
  exact ⟨_, h1, fun s H0 C cl fp => ⟨fun Q hq => g_tupV nd hc (k.gh.t ht) (g s H0 C cl fp) (by rw [rs.length]; exact hl) hq (hn s H0 C cl fp) (hst s H0 C cl fp), (h2 s H0 C cl fp).1, (h2 s H0 C cl fp).2⟩⟩
/-! ### dicts -/
def dMerge (kvs : List (Key × D)) : List (Key × D) := kvs.foldl (fun acc q => dPut acc q.1 q.2) []
/-- a turn of a dict comprehension -/
structure DcTurn (X : Cx) (W : Wd) (scope : Scope) (vs : List Nat) (tg kx vx : Expr) (ifs : List Expr) (σ : St) (keep : D → Bool) (kf : D → Key) (vf : D → D) (v : V) (d : D) (G1 H1 : Hp) : Prop where
  ex : ∃ σ2, wipe σ2 vs = wipe σ vs ∧ ∀ s H0 C cl fp, (∀ Q : St → Hp → Prop, Q σ2 H1 → semG (blkX X scope s H0 C cl fp) tg v (wipe σ vs) H1 Q) ∧ EvTs (blkX X scope s H0 C cl fp) W ifs σ2 G1 H1 (· = keep d) ∧
    (keep d = true → Ev (blkX X scope s H0 C cl fp) W kx σ2 G1 H1 (· = keyD (kf d)) ∧ Ev (blkX X scope s H0 C cl fp) W vx σ2 G1 H1 (· = vf d))
theorem dMerge_len : ∀ (l acc : List (Key × D)), (l.foldl (fun acc q => dPut acc q.1 q.2) acc).length ≤ acc.length + l.length
  | [], acc => by simp
  | q :: l, acc => by
    refine Nat.le_trans (dMerge_len l _) ?_
    have : (dPut acc q.1 q.2).length ≤ acc.length + 1 := by
      unfold dPut
      split <;> simp
    simp
    omega
theorem RpK.length {K : PySem.W.Frag} {mg : Str → Option Value} : ∀ {vs : List (Key × V)} {ds : List (Key × D)}, RpK K mg G vs ds → vs.length = ds.length
  | _, _, .nil => rfl
  | _, _, .cons _ s => congrArg (· + 1) s.length
theorem dc_read {kx vx : Expr} {scope : Scope} {keep : D → Bool} {kf : D → Key} {vf : D → D} (own : List (Str × Nat)) (hi : EvI X W tg it σ G H L) (hz : L.length ≤ 10000)
    (ht : ∀ (i : Nat) (d : D) (v : V) (G1 H1 : Hp), L[i]? = some d → Ch W N0 G H G1 H1 → Rp X.K X.mg G1 v d → DcTurn X W scope (own.map (·.2)) tg kx vx ifs σ keep kf vf v d G1 H1) (c : Ch W N0 G H G1 H1) (Q : VK)
    (q : ∀ p vs ds G2 H2, Ch W N0 G1 H1 G2 H2 → H1 p = none → G2 p = none → ¬ W.M p → H2 p = some (.dK vs) → RpK X.K X.mg G2 vs ds → ds = dMerge ((L.filter keep).map fun d => (kf d, vf d)) → Q (.ref p) H2) :
    tDc (semI X tg it) (fun v σ H Q => ∀ s H0 C cl fp, semG (blkX X scope s H0 C cl fp) tg v σ H Q) (fun σ H Q => ∀ s H0 C cl fp, semTs (blkX X scope s H0 C cl fp) ifs σ H Q) (fun σ H Q => ∀ s H0 C cl fp, semE (blkX X scope s H0 C cl fp) kx σ H Q) (fun σ H Q => ∀ s H0 C cl fp, semE (blkX X scope s H0 C cl fp) vx σ H Q) (own.map (·.2)) σ H1 Q := by
  refine hi G1 H1 c _ fun J G2 H2 c2 I A hA => ?_
  have nA : ¬ W.M A := c2.ok.nm hA
  have gA : G2 A = none := c2.ok.gnone hA
  have c3 : Ch W N0 G2 H2 G2 (upd H2 A (.dK [])) := Ch.own c2.ok hA
  have hA1 : H1 A = none := c2.new_of hA
  refine ⟨fun i m H' => m = L.length - i ∧ i ≤ L.length ∧ ∃ G' acc, Ch W N0 G2 H2 G' H' ∧ G' A = none ∧ H' A = some (.dK acc) ∧ RpK X.K X.mg G' acc (dMerge (((L.take i).filter keep).map fun d => (kf d, vf d))),
    ⟨L.length, by simp, Nat.zero_le _, G2, [], c3, gA, upd_same, .nil⟩, ?_⟩
  rintro i m H' ⟨rfl, hi', G', acc, c', g', h', ra⟩
  by_cases hlt : i < L.length
  · have hL : L[i]? = some L[i] := List.getElem?_eq_getElem hlt
    refine .inr ⟨I.go i G' H' hlt c'.gg c'.ok, fun H4 => ∃ G4 acc, Ch W N0 G2 H2 G4 H4 ∧ G4 A = none ∧ H4 A = some (.dK acc) ∧ RpK X.K X.mg G4 acc (dMerge (((L.take (i + 1)).filter keep).map fun d => (kf d, vf d))), fun H4 z => ⟨L.length - (i + 1), by omega, rfl, hlt, z⟩, fun x H5 y => ?_⟩
    obtain ⟨G5, c5, r5⟩ := I.yld i L[i] G' H' x H5 hL c'.gg c'.ok y
    have c25 : Ch W N0 G2 H2 G5 H5 := c'.trans c5
    obtain ⟨σ2, hw, hx⟩ := (ht i L[i] x G5 H5 hL ((c.trans c2).trans c25) r5).ex
    intro s H0 C cl fp
    refine (hx s H0 C cl fp).1 _ ⟨hw, ?_⟩
    have hA5 : H5 A = some (.dK acc) := c5.hh A _ nA (fun z => z) h'
    have gA5 : G5 A = none := c5.fr A (by rw [h']; exact fun z => nomatch z) g'
    intro s H0 C cl fp
    refine (hx s H0 C cl fp).2.1 G5 H5 (Ch.refl c25.ok) _ fun b G6 H6 c6 eb => ?_
    have hA6 : H6 A = some (.dK acc) := c6.hh A _ nA (fun z => z) hA5
    have gA6 : G6 A = none := c6.fr A (by rw [hA5]; exact fun z => nomatch z) gA5
    have tk := take_keep (keep := keep) hL
    cases b with
    | false =>
      show ∃ G4 acc, _
      refine ⟨G6, acc, c25.trans c6, gA6, hA6, ?_⟩
      rw [tk, if_neg (by rw [← eb]; decide), List.append_nil]
      exact ra.mono (c5.trans c6).gg
    | true =>
      show ∀ s H0 C cl fp, _
      intro s H0 C cl fp
      obtain ⟨e1, e2⟩ := (hx s H0 C cl fp).2.2 eb.symm
      refine e1 G6 H6 c6 _ fun u d7 G7 H7 c7 p7 r7 => ?_
      subst p7
      show ∀ s H0 C cl fp, _
      intro s H0 C cl fp
      refine ((hx s H0 C cl fp).2.2 eb.symm).2 G7 H7 (c6.trans c7) _ fun v d8 G8 H8 c8 p8 r8 => ?_
      subst p8
      have hA7 : H7 A = some (.dK acc) := c7.hh A _ nA (fun z => z) hA6
      have gA7 : G7 A = none := c7.fr A (by rw [hA6]; exact fun z => nomatch z) gA6
      have hA8 : H8 A = some (.dK acc) := c8.hh A _ nA (fun z => z) hA7
      have gA8 : G8 A = none := c8.fr A (by rw [hA7]; exact fun z => nomatch z) gA7
      have c28 : Ch W N0 G2 H2 G8 H8 := ((c25.trans c6).trans c7).trans c8
      have cw : Ch W (fun a => a = A) G8 H8 G8 (upd H8 A (.dK (putK acc (kf L[i]) v))) := Ch.write c28.ok gA8 nA rfl
      have hlen : acc.length < 20000 := by
        rw [ra.length]
        have h1 := dMerge_len (((L.take i).filter keep).map fun d => (kf d, vf d)) []
        have h2 := List.length_filter_le keep (L.take i)
        rw [List.length_map, List.length_nil] at h1
        rw [List.length_take] at h2
        unfold dMerge
        omega
      refine ⟨acc, kf L[i], r7.key, hA8, by rw [sizeLine_eq]; omega, G8, putK acc (kf L[i]) v, c28.loc cw (fun x e => .inr (by rw [e]; exact hA)), gA8, upd_same, ?_⟩
      rw [tk, if_pos eb.symm, List.map_append]
      unfold dMerge
      rw [List.foldl_append]
      exact RpK.put r8 (ra.mono (((c5.trans c6).trans c7).trans c8).gg)
  · have e : i = L.length := by omega
    subst e
    rw [List.take_length] at ra
    exact .inl ⟨I.stop G' H' c'.gg c'.ok, q A acc _ G' H' (c2.trans c') hA1 g' nA h' ra rfl⟩
theorem ed_dc {kx vx : Expr} {scope : Scope} {keep : D → Bool} {kf : D → Key} {vf : D → D} (own : List (Str × Nat)) (nd : X.N.Nodup) (ok : BlkOk X.N X.env.scope scope own) (hi : EvI X W tg it σ G H L) (hz : L.length ≤ 10000)
    (ht : ∀ (i : Nat) (d : D) (v : V) (G1 H1 : Hp), L[i]? = some d → Ch W N0 G H G1 H1 → Rp X.K X.mg G1 v d → DcTurn X W scope (own.map (·.2)) tg kx vx ifs σ keep kf vf v d G1 H1) (hc : X.calm = true := by rfl) (hs : ∀ x, foldedSetIterable it X.env x = pure x := by intro _; rfl) :
    EvD X W (.DictComp kx vx [⟨tg, it, ifs, 0⟩] scope pos) σ G H (· = dMerge ((L.filter keep).map fun d => (kf d, vf d))) := fun G1 H1 c Q q =>
  semE_of (pe_dc (g := fun v σ H Q => ∀ s H0 C cl fp, semG (blkX X scope s H0 C cl fp) tg v σ H Q) (tt := fun σ H Q => ∀ s H0 C cl fp, semTs (blkX X scope s H0 C cl fp) ifs σ H Q) (tk := fun σ H Q => ∀ s H0 C cl fp, semE (blkX X scope s H0 C cl fp) kx σ H Q) (tv := fun σ H Q => ∀ s H0 C cl fp, semE (blkX X scope s H0 C cl fp) vx σ H Q)
    hc nd pi_sem ok (fun s H0 C cl fp => ⟨fun pins s' σ H v u Q I r h => h s H0 C cl fp pins s' u I r⟩) (fun s H0 C cl fp => ⟨fun pins s' σ H Q I h => h s H0 C cl fp pins s' I⟩) (fun s H0 C cl fp => ⟨fun pins s' σ H Q I h => h s H0 C cl fp pins s' I⟩) (fun s H0 C cl fp => ⟨fun pins s' σ H Q I h => h s H0 C cl fp pins s' I⟩) hs)
    (dc_read own hi hz ht c Q q)
theorem dc1 {kx vx : Expr} {scope : Scope} {vs : List Nat} {kf : D → Key} {vf : D → D} {v : V} {d : D} {x : Str} (j : Nat) (nd : X.N.Nodup) (k : Ok W G H)
    (he : ∀ s H0 C cl fp, Ev (blkX X scope s H0 C cl fp) W kx ((wipe σ vs).set j (some v)) G H (· = keyD (kf d)) ∧ Ev (blkX X scope s H0 C cl fp) W vx ((wipe σ vs).set j (some v)) G H (· = vf d))
    (hw : wipe ((wipe σ vs).set j (some v)) vs = wipe σ vs := by rfl) (hi : X.N[j]? = some x := by rfl) (hx : ∀ s H0 C cl fp, Loc (blkX X scope s H0 C cl fp).env.scope x := by intros; first | exact Or.inl rfl | exact Or.inr rfl)
    (hf : ∀ s H0 C cl fp, (blkX X scope s H0 C cl fp).fn x = true ∨ (blkX X scope s H0 C cl fp).env.scope.names.lookup x = some .local := by intros; first | exact .inl rfl | exact .inr rfl) : DcTurn X W scope vs (.Name x p) kx vx [] σ (fun _ => true) kf vf v d G H :=
  ⟨_, hw, fun s H0 C cl fp => ⟨fun Q q => g_name j nd q hi (hx s H0 C cl fp) (hf s H0 C cl fp), ets_nil, fun _ => he s H0 C cl fp⟩⟩
/-- dict([(k, v), ..]) -/
theorem RpA.pairs {K : PySem.W.Frag} {mg : Str → Option Value} : ∀ {vs : List V} {kvs : List (Key × D)}, RpA K mg G vs (kvs.map fun q => .tup [keyD q.1, q.2]) → ∃ (ps : List Addr) (ws : List (Key × V)), vs = ps.map V.ref ∧ Paired (fun p kv => SqT K G p [kV kv.1, kv.2]) ps ws ∧ RpK K mg G ws kvs
  | _, [], .nil => ⟨[], [], rfl, .nil, .nil⟩
  | _, (k, d) :: kvs, .cons r s => by
    obtain ⟨ps, ws, e, h1, h2⟩ := RpA.pairs s
    obtain ⟨p, us, rfl, ht, rs⟩ := r.tup_v
    obtain ⟨u, v, rfl, ru, rv⟩ := rs.two
    rw [ru.key] at ht
    exact ⟨p :: ps, (k, v) :: ws, by rw [e]; rfl, .cons ht h1, .cons rv h2⟩
theorem merge_rp {K : PySem.W.Frag} {mg : Str → Option Value} : ∀ {ws : List (Key × V)} {kvs : List (Key × D)} {acc : List (Key × V)} {acd : List (Key × D)}, RpK K mg G ws kvs → RpK K mg G acc acd → RpK K mg G (mergeK acc ws) (kvs.foldl (fun acc q => dPut acc q.1 q.2) acd)
  | _, _, _, _, .nil, h => h
  | _, _, _, _, .cons (k := k) r s, h => by
    have z := merge_rp s (RpK.put (k := k) r h)
    exact z
theorem paired_ext {K : PySem.W.Frag} {G' : Hp} (e : Ext G G') {ps : List Addr} {ws : List (Key × V)} (h : Paired (fun p kv => SqT K G p [kV kv.1, kv.2]) ps ws) : Paired (fun p kv => SqT K G' p [kV kv.1, kv.2]) ps ws := by
  induction h with
  | nil => exact .nil
  | cons r s ih => exact .cons (e.t r) ih
theorem ed_pairs {kvs : List (Key × D)} (hm : X.mg "dict" = none) (ha : Ev X W a σ G H (· = .lst (kvs.map fun q => .tup [keyD q.1, q.2]))) (hc : X.calm = true := by rfl) (hg : Gl X "dict" := by rfl) (hs : starEach [a] X.env = (false, eval a X.env) :: starEach [] X.env := by rfl) :
    EvD X W (.Call (.Name "dict" p) [a] [] pos) σ G H (· = dMerge kvs) := fun G1 H1 c Q q =>
  semE_of (pe_callTy (call_dictP hc) hg hm (by decide +kernel) (pa_cons pe_sem pa_nil hs) (by decide) (by decide) hs) (ha G1 H1 c _ fun v d' G2 H2 c2 e r => by
    subst e
    obtain ⟨a, vs, rfl, hl, rs⟩ := r.lst_v
    obtain ⟨ps, ws, rfl, h1, h2⟩ := rs.pairs
    refine ⟨a, ps, ws, rfl, c2.ok.gh.l hl, paired_ext c2.ok.gh h1, fun p hp => ?_⟩
    have cn : Ch W N0 G2 H2 G2 (upd H2 p (.dK (mergeK [] ws))) := Ch.own c2.ok hp
    exact q p _ _ _ _ (c2.trans cn) (c2.new_of hp) (c2.ok.gnone hp) (c2.ok.nm hp) upd_same (merge_rp h2 .nil) rfl)
theorem q_asgD {x : Str} {p' : Pos} {PL : List (Key × D) → Prop} (i : Nat) (nd : X.N.Nodup) (k : Ok W G H) (h : EvD X W e σ G H PL) (cont : ∀ p ds G1 H1, Ch W N0 G H G1 H1 → H p = none → OwnK X.K X.mg W G1 H1 p ds → PL ds → semB X rest D0 (σ.set i (some (.ref p))) H1) (hi : X.N[i]? = some x := by rfl) (hx : Loc X.env.scope x := by first | exact Or.inl rfl | exact Or.inr rfl)
    (hs : swapsWith e (some (.Name x p')) pos.line X.env = pure false := by rfl) (hf : X.fn x = true ∨ X.env.scope.names.lookup x = some .local := by first | exact .inl rfl | exact .inr rfl) : semB X (.Assign [.Name x p'] e pos :: rest) D0 σ H :=
  q_cons (ps_set nd hi hx pe_sem hs hf) (h G H (Ch.refl k) _ fun p vs ds G1 H1 c h1 h2 h3 h4 h5 h6 => cont p ds G1 H1 c h1 ⟨h2, h3, vs, h4, h5⟩ h6)
/-- dict comprehensions on one line with their target are met by ps_setLc's kin; where they lie on their own the plain rule stands -/
theorem cutV_take (xs : List V) (i : Nat) : cutV xs none (some (i : Int)) = xs.take i := by
  unfold cutV
  rw [HT.sIx_none, HT.sIx_nat, List.drop_zero, Nat.sub_zero]
  by_cases h : i ≤ xs.length
  · rw [Nat.min_eq_left h]
  · rw [Nat.min_eq_right (by omega), List.take_length, List.take_of_length_le (by omega)]
/-- l[:n] of a list, raw -/
theorem semE_takeL {Q : VK} (h : semE X a σ H fun x H1 => semE X b σ H1 fun y H2 => ∃ q xs i, x = .ref q ∧ y = .int (i : Nat) ∧ SqL X.K H2 q xs ∧ ∀ r, H2 r = none → Q (.ref r) (upd H2 r (.lst (xs.take i)))) : semE X (.Subscript a (.Slice none (some b) none pos2) pos) σ H Q :=
  semE_of (pe_slice sl_list pe_sem po_none (po_some pe_sem)) fun pins s I => thn (h pins s I) fun u s1 ⟨x, H1, I1, r1, q1⟩ => ⟨x, H1, I1, r1, fun pins s I => thn (q1 pins s I) fun u s1 ⟨y, H2, I2, r2, q, xs, i, e1, e2, e3, k⟩ => ⟨y, H2, I2, r2, i, e2, q, xs, e1, e3, fun r hr => by rw [cutV_take]; exact k r hr⟩⟩
end
end GX
set_option Elab.async false
set_option linter.all false
set_option maxRecDepth 100000
set_option maxHeartbeats 2000000
/-! GX13: two new lists at once, the end of a def that returns its own list, mk_calM. -/
namespace GX
open PySem L2
section
variable {X : Cx} {W : Wd} {e a b c it tg : Expr} {es ifs : List Expr} {σ : St} {G H G1 H1 : Hp} {P P1 P2 : D → Prop} {pos p pos2 : Pos} {l : Addr} {ds L M : List D} {D0 : Ends} {rest body orelse : List Stmt} {st : Stmt}
/-- x, y = [..], [..] -/
theorem q_parNN {x y : Str} {px py pt pt2 : Pos} {kt k2 : Nat} {PL1 PL2 : List D → Prop} (i j : Nat) (nd : X.N.Nodup) (k : Ok W G H) (ha : EvN X W a σ G H PL1) (hb : EvN X W b σ G H PL2)
    (cont : ∀ p1 p2 d1 d2 G1 H1, Ch W N0 G H G1 H1 → PL1 d1 → PL2 d2 → OwnL X.K X.mg W G1 H1 p1 d1 → OwnL X.K X.mg W G1 H1 p2 d2 → p1 ≠ p2 → H p1 = none → H p2 = none → semB X rest D0 ((σ.set i (some (.ref p1))).set j (some (.ref p2))) H1)
    (hij : i ≠ j := by decide) (hc : X.calm = true := by rfl) (hi : X.N[i]? = some x := by rfl) (hj : X.N[j]? = some y := by rfl) (hx : X.env.scope.names.lookup x = some .local := by rfl) (hy : X.env.scope.names.lookup y = some .local := by rfl)
    (hw : swappedStores [.Tuple [.Name x px, .Name y py] kt pt] (.Tuple [a, b] k2 pt2) X.env = pure (some [x, y]) := by rfl) (hs : swapsWithSole [.Tuple [.Name x px, .Name y py] kt pt] (.Tuple [a, b] k2 pt2) pos.line X.env = pure false := by rfl)
    (he : starEach [a, b] X.env = (false, eval a X.env) :: starEach [b] X.env := by rfl) (he2 : starEach [b] X.env = (false, eval b X.env) :: starEach [] X.env := by rfl) : semB X (.Assign [.Tuple [.Name x px, .Name y py] kt pt] (.Tuple [a, b] k2 pt2) pos :: rest) D0 σ H := by
  refine q_parE i j nd (ha G H (Ch.refl k) _ fun p1 vs d1 G1 H1 c1 n1 n2 n3 n4 n5 n6 => ?_) hij hc hi hj hx hy hw hs he he2
  refine hb G1 H1 c1 _ fun p2 ws d2 G2 H2 c2 m1 m2 m3 m4 m5 m6 => ?_
  have o1 : OwnL X.K X.mg W G1 H1 p1 d1 := ⟨n2, n3, vs, n4, n5⟩
  refine cont p1 p2 d1 d2 G2 H2 (c1.trans c2) n6 m6 (o1.ch0 c2) ⟨m2, m3, ws, m4, m5⟩ (fun z => ?_) n1 (c1.new_of m1)
  rw [z, m1] at n4
  cases n4
/-- return l, l one's own list that was made meanwhile -/
theorem q_retOwn {x : Str} {i : Nat} {S : Addr → Prop} (o : OwnL X.K X.mg W G1 H1 l ds) (c : Ch W S G H G1 H1) (hS : ∀ x, S x → H x = none) (hl : H l = none) (hs : σ[i]? = some (some (.ref l))) (cont : ∀ v G2, Ch W N0 G H G2 H1 → Rp X.K X.mg G2 v (.lst ds) → D0.rt v H1)
    (k : Ok W G H) (hN : X.N[i]? = some x := by rfl) (hv : Vis X.env.scope x := by first | exact Or.inl rfl | exact Or.inr (Or.inl rfl) | exact Or.inr (Or.inr rfl)) (hd : (x == ("__debug__" : Str)) = false := by decide) (hcd : (x == ("__classdict__" : Str)) = false := by decide) : semB X (.Return (some (.Name x p)) pos :: rest) D0 σ H1 := by
  obtain ⟨G2, c2, r2, _⟩ := o.fz ((Ch.refl k).loc0 c hS) hl
  exact q_retE (semE_v i hs (cont _ G2 c2 r2) hN hv hd hcd)
end
theorem mk_calM {P : Program} {w : World} {K : PySem.W.Frag} {mg : Str → Option Value} {base : Heap} {cn m x qual : Str} {params : Arguments} {body : List Stmt} {scope : Scope} {f C : Addr} {fd : FuncData} {ps : List Str} {k : Nat} {F : List D → D → Prop} (Fd : FunD K x qual params body scope [] [] f fd)
    (Fn : FnOk P w K mg base CX0 k f fd ps (SpD K mg F)) (hC : mg cn = some (.ref C)) (cl : Cls K C) (me : Meth K C m f)
    (hb : ∀ (kV doc pm : Value) (an : Option Addr) (cdv ct : Value) (us : List Value), us.length = ps.length → bindArgs (PySem.W.fnOf x qual params body scope .none kV doc pm an cdv ct) ⟨us, []⟩ = pure (ps.zip us)) : CalM P w K mg base cn m k ps F :=
  ⟨C, f, fd, Fn, hC, cl, me, Fd.bindsN hb⟩
theorem mk_calK {P : Program} {w : World} {K : PySem.W.Frag} {mg : Str → Option Value} {base : Heap} {x qual : Str} {params : Arguments} {body : List Stmt} {scope : Scope} {f : Addr} {fd : FuncData} {ps : List Str} {k : Nat} {F : List D → D → Prop} (Fd : FunD K x qual params body scope [] [] f fd)
    (Fn : FnOk P w K mg base CX0 k f fd ps (SpD K mg F)) (hm : mg x = some (.ref f))
    (hb : ∀ (kV doc pm : Value) (an : Option Addr) (cdv ct : Value) (ws : List Value), ws.length = ps.length → bindArgs (PySem.W.fnOf x qual params body scope .none kV doc pm an cdv ct) ⟨[], ps.zip ws⟩ = pure (ps.zip ws)) : CalK P w K mg base x k ps F := by
  have kp := Fd.kp
  obtain ⟨oc, od, dV, kV, doc, pm, an, cdv, ct, osl, rfl, lk, hcd, hD, _⟩ := Fd.ex
  rcases hD with ⟨_, rfl⟩ | ⟨z, _⟩
  · refine ⟨f, _, Fn, hm, kp, ⟨fun s us ws _ l1 l2 => ?_, fun _ r => r⟩⟩
    obtain rfl : us = [] := List.length_eq_zero_iff.mp l1
    exact .of_eq (hb kV doc pm an cdv ct ws l2)
  · exact absurd rfl z
end GX
set_option Elab.async false
set_option linter.all false
set_option maxRecDepth 100000
set_option maxHeartbeats 2000000
/-! GX14: x = {k: v for ..} on one line, x a local. -/
namespace GX
open PySem PySem.Spec PyProof.Rows L2
section
variable {X : Cx}
theorem ps_setDc {i : Nat} {y : Str} {py : Pos} {kx vx tg it : Expr} {ifs : List Expr} {scope : Scope} {own : List (Str × Nat)} {pos spos : Pos} {wi : TI} {g : TG} {tt : TT} {tk tv : TE} (hc : X.calm = true) (hN : X.N.Nodup) (hy : X.N[i]? = some y) (loc : X.env.scope.names.lookup y = some .local)
    (hsw : swapsWith (.DictComp kx vx [⟨tg, it, ifs, 0⟩] scope pos) (some (.Name y py)) spos.line X.env = pure true) (hi : PI X tg it wi) (ok : BlkOk X.N X.env.scope scope own)
    (hg : ∀ s H C cl fp, PG (blkX X scope s H C cl fp) tg g) (ht : ∀ s H C cl fp, PTs (blkX X scope s H C cl fp) ifs tt) (hk : ∀ s H C cl fp, PE (blkX X scope s H C cl fp) kx tk) (hv : ∀ s H C cl fp, PE (blkX X scope s H C cl fp) vx tv)
    (hs : ∀ x, foldedSetIterable it X.env x = pure x := by intro _; rfl) :
    PS X (.Assign [.Name y py] (.DictComp kx vx [⟨tg, it, ifs, 0⟩] scope pos) spos) (tAsg (tDc wi g tt tk tv (own.map (·.2))) (gName i)) := by
  refine ⟨fun pins s σ H D I h0 => ?_⟩
  rw [exec_Assign_Name_used _ _ _ _ hsw]
  refine wpAny_bind (wpAny_standAt (wpAny_bind ?_))
  change wpAny _ X.A (do let _ ← comprehension (.DictComp kx vx [⟨tg, it, ifs, 0⟩] scope pos) scope X.env (firstIterPos [⟨tg, it, ifs, 0⟩] pos) newDict false (eval it X.env) (some (assign (.Name y py) X.env))) _ _ s
  have h1 : tDc wi g tt tk tv (own.map (·.2)) σ H (fun x H1 => gName i x σ H1 D.nx) := h0
  refine wpAny_bind (thn (dc_core (Qf := fun _ s2 => SP X pins D .next s2) hc hN I hi ok hg ht hk hv hs h1 fun d C s2 m H2 I2 q ns fp => ?_) fun _ s2 z => wpAny_pure (wpAny_pure z))
  change wpAny _ _ (assign (.Name y py) X.env (.ref d)) _ _ _
  obtain ⟨a0, a1, a2, a3, a4, a5⟩ := fp
  refine wpAny_assign_Name (store_ok2 (v := V.ref d) I2 hN hy (.inl loc) rfl (fun s3 I3 ⟨b, same, hb⟩ => ⟨m, ns.sameBut same (hb.elim (fun z => by rw [z]; exact a1) fun z e => a4 y b z e.symm), fun h3 same3 => ?_⟩) (.inr loc))
  exact ⟨_, H2, I3.turned (t' := s3.toks) (fun c o hc e => (same3.2 c hc).trans e) a0 a1 a3 a4 a5, q⟩
end
section
variable {X : Cx} {W : Wd} {tg it : Expr} {ifs : List Expr} {σ : L2.St} {G H : Hp} {pos : Pos} {L : List D} {D0 : Ends} {rest : List Stmt}
theorem q_asgDc {x : Str} {p' spos : Pos} {kx vx : Expr} {scope : Scope} {keep : D → Bool} {kf : D → Key} {vf : D → D} (i : Nat) (own : List (Str × Nat)) (nd : X.N.Nodup) (k : Ok W G H) (ok : BlkOk X.N X.env.scope scope own) (hi : EvI X W tg it σ G H L) (hz : L.length ≤ 10000)
    (ht : ∀ (i : Nat) (d : D) (v : V) (G1 H1 : Hp), L[i]? = some d → Ch W N0 G H G1 H1 → Rp X.K X.mg G1 v d → DcTurn X W scope (own.map (·.2)) tg kx vx ifs σ keep kf vf v d G1 H1)
    (cont : ∀ p G1 H1, Ch W N0 G H G1 H1 → H p = none → OwnK X.K X.mg W G1 H1 p (dMerge ((L.filter keep).map fun d => (kf d, vf d))) → semB X rest D0 (σ.set i (some (.ref p))) H1)
    (hsw : swapsWith (.DictComp kx vx [⟨tg, it, ifs, 0⟩] scope pos) (some (.Name x p')) spos.line X.env = pure true)
    (hN : X.N[i]? = some x := by rfl) (hx : X.env.scope.names.lookup x = some .local := by rfl) (hc : X.calm = true := by rfl) (hs : ∀ x, foldedSetIterable it X.env x = pure x := by intro _; rfl) :
    semB X (.Assign [.Name x p'] (.DictComp kx vx [⟨tg, it, ifs, 0⟩] scope pos) spos :: rest) D0 σ H :=
  q_cons (ps_setDc (g := fun v σ H Q => ∀ s H0 C cl fp, semG (blkX X scope s H0 C cl fp) tg v σ H Q) (tt := fun σ H Q => ∀ s H0 C cl fp, semTs (blkX X scope s H0 C cl fp) ifs σ H Q) (tk := fun σ H Q => ∀ s H0 C cl fp, semE (blkX X scope s H0 C cl fp) kx σ H Q) (tv := fun σ H Q => ∀ s H0 C cl fp, semE (blkX X scope s H0 C cl fp) vx σ H Q)
    hc nd hN hx hsw pi_sem ok (fun s H0 C cl fp => ⟨fun pins s' σ H v u Q I r h => h s H0 C cl fp pins s' u I r⟩) (fun s H0 C cl fp => ⟨fun pins s' σ H Q I h => h s H0 C cl fp pins s' I⟩) (fun s H0 C cl fp => ⟨fun pins s' σ H Q I h => h s H0 C cl fp pins s' I⟩) (fun s H0 C cl fp => ⟨fun pins s' σ H Q I h => h s H0 C cl fp pins s' I⟩) hs)
    (dc_read own hi hz ht (Ch.refl k) _ fun p vs ds G2 H2 c2 h1 h2 h3 h4 h5 e => cont p G2 H2 c2 h1 (by rw [← e]; exact ⟨h2, h3, vs, h4, h5⟩))
variable {a : Expr} {p p2 q2 : Pos}
/-- list(range(e)) -/
theorem en_listR {n : Nat} (hm : X.mg "list" = none) (hm2 : X.mg "range" = none) (ha : Ev X W a σ G H (· = .int n)) (hz : n ≤ 1000000) (hc : X.calm = true := by rfl) (hg : Gl X "list" := by rfl) (hg2 : Gl X "range" := by rfl)
    (na : starEach [a] X.env = (false, eval a X.env) :: starEach [] X.env := by rfl) (nb : starEach [.Call (.Name "range" p2) [a] [] q2] X.env = (false, eval (.Call (.Name "range" p2) [a] [] q2) X.env) :: starEach [] X.env := by rfl) :
    EvN X W (.Call (.Name "list" p) [.Call (.Name "range" p2) [a] [] q2] [] pos) σ G H (· = (List.range n).map fun i : Nat => .int i) := fun G1 H1 c Q q =>
  semE_of (pe_listRg hc hg hm (prg_1 hg2 hm2 pe_sem na) nb) (ha G1 H1 c _ fun v d G2 H2 c2 e r => by
    subst e
    refine ⟨(n : Int), r.int_v, ⟨by omega, by omega, by omega, by omega, by omega⟩, fun r0 hr => ?_⟩
    have cn : Ch W N0 G2 H2 G2 (upd H2 r0 (.lst (rgV 0 n))) := Ch.own c2.ok hr
    refine q r0 _ _ _ _ (c2.trans cn) (c2.new_of hr) (c2.ok.gnone hr) (c2.ok.nm hr) upd_same ?_ rfl
    have e : rgV 0 n = (((List.range n).map fun i : Nat => (i : Int)).map V.int) := by
      unfold rgV
      rw [List.map_map, show ((n : Int) - 0).toNat = n by omega]
      refine List.map_congr_left fun i _ => ?_
      show V.int (0 + (i : Int)) = V.int i
      rw [Int.zero_add]
    have e2 : ((List.range n).map fun i : Nat => D.int i) = (((List.range n).map fun i : Nat => (i : Int)).map D.int) := by rw [List.map_map]; rfl
    rw [e, e2]
    exact RpA.ints _)
end
end GX
set_option Elab.async false
set_option linter.all false
set_option maxRecDepth 100000
set_option maxHeartbeats 2000000
/-! GX15: a law's state (a dict that it alone has), calls by any promise. -/
namespace GX
open PySem L2
/-- the state that a law draws from: s the dict, g the list of great numbers; at most n turns yet -/
structure StS (K : PySem.W.Frag) (mg : Str → Option Value) (s g : Addr) (n : Nat) (G H : Hp) : Prop where
  gs : G s = none
  gg : G g = none
  ne : g ≠ s
  ex : ∃ (c : V) (r t : Int) (great cells : List Int), H s = some (.dK [(.inr "great", .ref g), (.inr "cells", c), (.inr "rest", .int r), (.inr "turn", .int t)]) ∧ H g = some (.lst (great.map .int)) ∧ Rp K mg G c (.lst (cells.map .int)) ∧ 0 ≤ r ∧ 0 ≤ t ∧ t ≤ n ∧ (∀ x ∈ great, 0 ≤ x) ∧ great.length ≤ 100 ∧ (∀ x ∈ cells, 0 ≤ x) ∧ cells.length ≤ 100
section
variable {K : PySem.W.Frag} {mg : Str → Option Value} {s g : Addr} {n m : Nat} {G H G1 H1 : Hp} {S : Addr → Prop}
theorem StS.ch (o : StS K mg s g n G H) (c : Ch W0 S G H G1 H1) (h1 : ¬ S s) (h2 : ¬ S g) : StS K mg s g n G1 H1 := by
  obtain ⟨v, r, t, gr, ce, e1, e2, e3, more⟩ := o.ex
  exact ⟨c.fr s (by rw [e1]; exact fun z => nomatch z) o.gs, c.fr g (by rw [e2]; exact fun z => nomatch z) o.gg, o.ne, v, r, t, gr, ce, c.hh s _ (fun z => z) h1 e1, c.hh g _ (fun z => z) h2 e2, e3.mono c.gg, more⟩
theorem StS.ch0 (o : StS K mg s g n G H) (c : Ch W0 N0 G H G1 H1) : StS K mg s g n G1 H1 := o.ch c (fun z => z) fun z => z
theorem StS.le (o : StS K mg s g n G H) (h : n ≤ m) : StS K mg s g m G H := by
  obtain ⟨v, r, t, gr, ce, e1, e2, e3, e4, e5, e6, more⟩ := o.ex
  exact ⟨o.gs, o.gg, o.ne, v, r, t, gr, ce, e1, e2, e3, e4, e5, by omega, more⟩
theorem StS.tr (o : StS K mg s g n G H) : H s ≠ none ∧ H g ≠ none := by
  obtain ⟨v, r, t, gr, ce, e1, e2, _⟩ := o.ex
  exact ⟨by rw [e1]; exact (fun z => nomatch z), by rw [e2]; exact (fun z => nomatch z)⟩
/-- the state's own addresses -/
abbrev Sg (s g : Addr) : Addr → Prop := fun a => a = s ∨ a = g
end
section
variable {X : Cx} {W : Wd} {e a b c it tg : Expr} {es ifs : List Expr} {σ : St} {G H G1 H1 : Hp} {P P1 P2 : D → Prop} {pos p pos2 : Pos} {l : Addr} {ds L M : List D} {D0 : Ends} {rest body orelse : List Stmt} {st : Stmt}
/-- d[k], d a dict that stands in H -/
theorem semE_dk {kvs : List (Key × V)} {k : Str} {v : V} {ib : Nat} {x : Str} {Q : VK} {j p3} (hu : X.A.units + 1 < cLine) (h : H l = some (.dK kvs)) (hv' : valV kvs (.inr k) = some v) (q : Q v H) (hs : σ[ib]? = some (some (.ref l)) := by rfl) (hN : X.N[ib]? = some x := by rfl) (hv : Vis X.env.scope x := by first | exact Or.inl rfl | exact Or.inr (Or.inl rfl) | exact Or.inr (Or.inr rfl)) (hd : (x == ("__debug__" : Str)) = false := by decide) (hcd : (x == ("__classdict__" : Str)) = false := by decide) : semE X (.Subscript (.Name x p) (.Constant (.str k) j p3) pos) σ H Q := by
  refine semE_of (pe_dget hu pe_sem pe_sem (fun _ _ => rfl)) (semE_v ib hs ?_ hN hv hd hcd)
  exact semE_of pe_str ⟨l, v, rfl, by rw [← hv']; exact DGet.k (k := .inr k) h, q⟩
theorem ev_dk {kvs : List (Key × V)} {k : Str} {v : V} {d : D} (ib : Nat) {x : Str} {j p3} (hu : X.A.units + 1 < cLine) (hm : ¬ W.M l) (h : H l = some (.dK kvs)) (hv' : valV kvs (.inr k) = some v) (r : Rp X.K X.mg G v d) (hs : σ[ib]? = some (some (.ref l)) := by rfl) (hN : X.N[ib]? = some x := by rfl) (hv : Vis X.env.scope x := by first | exact Or.inl rfl | exact Or.inr (Or.inl rfl) | exact Or.inr (Or.inr rfl)) (hd : (x == ("__debug__" : Str)) = false := by decide) (hcd : (x == ("__classdict__" : Str)) = false := by decide) : Ev X W (.Subscript (.Name x p) (.Constant (.str k) j p3) pos) σ G H (· = d) := fun G1 H1 c Q q =>
  semE_dk hu (c.hh l _ hm (fun z => z) h) hv' (q v d G1 H1 (Ch.refl c.ok) rfl (r.mono c.gg)) hs hN hv hd hcd
/-- d[k] = e, raw -/
theorem q_dputX {k : Str} {ib : Nat} {x : Str} {pt : Pos} {j p3} (hu : X.A.units + 1 < cLine) (h : semE X e σ H fun v H1 => ∃ kvs, H1 l = some (.dK kvs) ∧ kvs.length < 10000 ∧ semB X rest D0 σ (upd H1 l (.dK (putK kvs (.inr k) v))))
    (hs : σ[ib]? = some (some (.ref l)) := by rfl) (hN : X.N[ib]? = some x := by rfl) (hv : Vis X.env.scope x := by first | exact Or.inl rfl | exact Or.inr (Or.inl rfl) | exact Or.inr (Or.inr rfl)) (hd : (x == ("__debug__" : Str)) = false := by decide) (hcd : (x == ("__classdict__" : Str)) = false := by decide)
    (hsw : swapsWith e (some (.Subscript (.Name x p) (.Constant (.str k) j p3) pt)) pos.line X.env = pure false := by rfl) : semB X (.Assign [.Subscript (.Name x p) (.Constant (.str k) j p3) pt] e pos :: rest) D0 σ H :=
  q_cons (ps_dput hu pe_sem pe_sem pe_sem hsw) (fun pins s I => thn (h pins s I) fun u s1 ⟨v, H1, I1, r, kvs, e1, hz, q⟩ => ⟨v, H1, I1, r, semE_v ib hs (semE_of pe_str ⟨l, _, rfl, DPut.k (k := .inr k) e1 (by rw [sizeLine_eq]; omega), q⟩) hN hv hd hcd⟩)
theorem q_dputR {kvs : List (Key × V)} {k : Str} {ib : Nat} {x : Str} {pt : Pos} {j p3} (hu : X.A.units + 1 < cLine) (hz : kvs.length < 10000) (h : semE X e σ H fun v H1 => H1 l = some (.dK kvs) ∧ semB X rest D0 σ (upd H1 l (.dK (putK kvs (.inr k) v))))
    (hs : σ[ib]? = some (some (.ref l)) := by rfl) (hN : X.N[ib]? = some x := by rfl) (hv : Vis X.env.scope x := by first | exact Or.inl rfl | exact Or.inr (Or.inl rfl) | exact Or.inr (Or.inr rfl)) (hd : (x == ("__debug__" : Str)) = false := by decide) (hcd : (x == ("__classdict__" : Str)) = false := by decide)
    (hsw : swapsWith e (some (.Subscript (.Name x p) (.Constant (.str k) j p3) pt)) pos.line X.env = pure false := by rfl) : semB X (.Assign [.Subscript (.Name x p) (.Constant (.str k) j p3) pt] e pos :: rest) D0 σ H :=
  q_dputX hu (fun pins s I => thn (h pins s I) fun u s1 ⟨v, H1, I1, r, e1, q⟩ => ⟨v, H1, I1, r, kvs, e1, hz, q⟩) hs hN hv hd hcd hsw
/-- a call by any promise -/
theorem semE_callR {x : Str} {k : Nat} {ps : List Str} {sp : Sp} {Q : VK} (C : Cal X.prog X.w X.K X.mg X.base CX0 x k ps sp) (hr : Room k X.A) (ha : semA X (e :: es) σ H fun vs H1 => sp vs H1 Q E0) (hg : Gl X x := by rfl)
    (hdb : (x == ("__debug__" : Str)) = false := by decide) (he : starEach (e :: es) X.env = (false, eval e X.env) :: starEach es X.env := by rfl) (hpl : (backTo pos (starEach es X.env)).any (·.1) = false := by rfl) : semE X (.Call (.Name x p) (e :: es) [] pos) σ H Q := by
  obtain ⟨f, fd, Fn, hm, hk, hb⟩ := C.ex
  refine semE_of (pe_call Fn hr hg hm hk hb .nil pass0 pa_sem hdb he hpl) fun po pins s I => thn (ha po pins s I) fun u s1 ⟨vs, H1, I1, r, q⟩ => ⟨vs, H1, I1, r, ?_⟩
  show sp (vs ++ []) H1 Q E0
  rw [List.append_nil]
  exact q
theorem semA_1 {Q : List V → Hp → Prop} (h : semE X a σ H fun v H1 => Q [v] H1) (hs : starEach [a] X.env = (false, eval a X.env) :: starEach [] X.env := by rfl) : semA X [a] σ H Q := semA_of (pa_cons pe_sem pa_nil hs) h
theorem semA_2 {Q : List V → Hp → Prop} (h : semE X a σ H fun v H1 => semE X b σ H1 fun w H2 => Q [v, w] H2) (hs : starEach [a, b] X.env = (false, eval a X.env) :: starEach [b] X.env := by rfl) (hs2 : starEach [b] X.env = (false, eval b X.env) :: starEach [] X.env := by rfl) : semA X [a, b] σ H Q := semA_of (pa_cons pe_sem (pa_cons pe_sem pa_nil hs2) hs) h
/-- what e is worth, as a raw reading -/
theorem Ev.s (h : Ev X W e σ G H P) (k : Ok W G H) {Q : VK} (q : ∀ v d G2 H2, Ch W N0 G H G2 H2 → P d → Rp X.K X.mg G2 v d → Q v H2) : semE X e σ H Q := h G H (Ch.refl k) Q q
theorem semE_add {Q : VK} (h : semE X a σ H fun x H1 => semE X b σ H1 fun y H2 => ∃ i j, x = .int i ∧ y = .int j ∧ Q (.int (i + j)) H2) : semE X (.BinOp a .Add b pos) σ H Q := semE_of (pe_op op_add pe_sem pe_sem) h
end
section
variable {P : Program} {w : World} {K : PySem.W.Frag} {mg : Str → Option Value} {base : Heap} {x qual : Str} {params : Arguments} {body : List Stmt} {scope : Scope} {f : Addr} {fd : FuncData} {N ps : List Str} {k : Nat} {sp : Sp}
theorem mk_fnR (Fd : FunD K x qual params body scope [] [] f fd) (S : FnScope N ps scope) (hl : ∀ vs H Q E, sp vs H Q E → vs.length = ps.length)
    (hb : ∀ (cdv : Value) (A : Around) (outer : List Env) (s : Shared) (H : Hp) (vs : List V) (Q : VK) (E : XK), Room k (aD qual scope s f cdv A) → sp vs H Q E → semB (bX P w K mg base N qual scope f cdv A outer s H E) body { nx := fun _ H' => Q .non H', rt := Q } (start N vs) H) :
    FnOk P w K mg base CX0 (k + 1) f fd ps sp :=
  Fd.ok S hl fun cdv A outer s H vs Q E hr h => ⟨_, PSs.nox pss_sem, hb cdv A outer s H vs Q E hr h⟩
theorem mk_fnG (Fd : FunD K x qual params body scope [] [] f fd) (S : FnScope N ps scope) (hl : ∀ vs H Q E, sp vs H Q E → vs.length = ps.length)
    (hb : ∀ (cdv : Value) (A : Around) (outer : List Env) (s : Shared) (H : Hp) (vs : List V) (Q : VK) (E : XK), (aD qual scope s f cdv A).guards = some [] → Room k (aD qual scope s f cdv A) → sp vs H Q E → semB (bX P w K mg base N qual scope f cdv A outer s H E) body { nx := fun _ H' => Q .non H', rt := Q } (start N vs) H) :
    FnG P w K mg base CX0 (k + 1) f fd ps sp :=
  GX.FunD.okG Fd S hl fun cdv A outer s H vs Q E gA hr h => ⟨_, PSs.nox pss_sem, hb cdv A outer s H vs Q E gA hr h⟩
end
end GX
set_option Elab.async false
set_option linter.all false
set_option maxRecDepth 100000
set_option maxHeartbeats 2000000
/-! GX16: loops and comprehensions whose parts draw from a state. -/
namespace GX
open PySem L2
section
variable {X : Cx} {W : Wd} {e a b c it tg elt : Expr} {es ifs : List Expr} {σ : St} {G H G1 H1 : Hp} {P P1 P2 : D → Prop} {pos p pos2 : Pos} {l : Addr} {ds L M : List D} {D0 : Ends} {rest body orelse : List Stmt} {st : Stmt}
/-- for, what is walked told by any reading -/
theorem q_forR (S : Addr → Prop) {C : List D → Hp → Hp → Prop} (Pv : List D → Nat → St → Hp → Hp → Prop) (h : ∀ R : It → Hp → Prop, (∀ J L G1 H1, Itd X.K X.mg W J G1 L → Ok W G1 H1 → C L G1 H1 → R J H1) → semI X tg it σ H R)
    (h0 : ∀ L G1 H1, C L G1 H1 → Pv L 0 σ G1 H1)
    (hs : ∀ L i d σ1 G0 H0 G1 H1, C L G0 H0 → L[i]? = some d → Ch W S G0 H0 G1 H1 → Pv L i σ1 G1 H1 → ∀ v G2 H2, Ch W N0 G1 H1 G2 H2 → Rp X.K X.mg G2 v d →
      semG X tg v σ1 H2 (fun σ3 H3 => semB X body { D0 with nx := fun σ4 H4 => ∃ G4, Ch W S G2 H2 G4 H4 ∧ Pv L (i + 1) σ4 G4 H4, ct := fun σ4 H4 => ∃ G4, Ch W S G2 H2 G4 H4 ∧ Pv L (i + 1) σ4 G4 H4, bk := semB X rest D0 } σ3 H3))
    (hd : ∀ L σ1 G0 H0 G1 H1, C L G0 H0 → Ch W S G0 H0 G1 H1 → Pv L L.length σ1 G1 H1 → semB X rest D0 σ1 H1) (hc : X.calm = true := by rfl) (hp : PassesOwn (model X.prog X.w) X.A X.env X.xe := by exact PassesOwn.never) (hf : ∀ x, foldedSetIterable it X.env x = pure x := by intro _; rfl) : semB X (.For tg it body [] pos :: rest) D0 σ H := by
  refine q_cons (ps_for hp hc pi_sem pg_sem pss_sem hf) (h _ fun J L G1 H1 I ko hC => ?_)
  refine ⟨fun i m σ' H' => m = L.length - i ∧ i ≤ L.length ∧ ∃ G', Ch W S G1 H1 G' H' ∧ Pv L i σ' G' H', ⟨L.length, by simp, Nat.zero_le _, G1, Ch.refl ko, h0 L G1 H1 hC⟩, ?_⟩
  rintro i m σ' H' ⟨rfl, hi, G', c', pv⟩
  by_cases hlt : i < L.length
  · refine .inr ⟨I.go i G' H' hlt c'.gg c'.ok, fun σ4 H4 => ∃ G4, Ch W S G1 H1 G4 H4 ∧ Pv L (i + 1) σ4 G4 H4, fun σ4 H4 ⟨G4, c4, p4⟩ => ⟨L.length - (i + 1), by omega, rfl, hlt, G4, c4, p4⟩, fun x H5 y => ?_⟩
    obtain ⟨G5, c5, r5⟩ := I.yld i L[i] G' H' x H5 (List.getElem?_eq_getElem hlt) c'.gg c'.ok y
    have z := hs L i L[i] σ' G1 H1 G' H' hC (List.getElem?_eq_getElem hlt) c' pv x G5 H5 c5 r5
    have up : ∀ σ4 H4, (∃ G4, Ch W S G5 H5 G4 H4 ∧ Pv L (i + 1) σ4 G4 H4) → ∃ G4, Ch W S G1 H1 G4 H4 ∧ Pv L (i + 1) σ4 G4 H4 := fun σ4 H4 ⟨G4, c4, p4⟩ => ⟨G4, (c'.trans c5.of0).trans c4, p4⟩
    intro pins s u I' r'
    refine thn (z pins s u I' r') fun _ s6 ⟨σ6, H6, I6, q6⟩ => ⟨σ6, H6, I6, semB_mono q6 up (fun _ _ z => z) (fun _ _ z => z) up⟩
  · have e : i = L.length := by omega
    subst e
    exact .inl ⟨I.stop G' H' c'.gg c'.ok, hd L σ' G1 H1 G' H' hC c' pv⟩
/-- a list comprehension whose elements may change S -/
theorem semE_lcS {scope : Scope} {Q : VK} (S : Addr → Prop) (Pv : Nat → List D → Hp → Hp → Prop) (own : List (Str × Nat)) (nd : X.N.Nodup) (ok : BlkOk X.N X.env.scope scope own) (k : Ok W G H) (hi : EvI X W tg it σ G H L) (hz : L.length ≤ 1000000) (hS : ∀ x, S x → H x ≠ none)
    (mono : ∀ i acc G1 H1 G2 H2 (T : Addr → Prop), Ch W T G1 H1 G2 H2 → (∀ x, T x → ¬ S x) → Pv i acc G1 H1 → Pv i acc G2 H2) (h0 : ∀ G1 H1, Ch W N0 G H G1 H1 → Pv 0 [] G1 H1)
    (ht : ∀ i d acc G1 H1 v, L[i]? = some d → Ch W S G H G1 H1 → Pv i acc G1 H1 → Rp X.K X.mg G1 v d → ∃ σ2, wipe σ2 (own.map (·.2)) = wipe σ (own.map (·.2)) ∧ ∀ s H0 C cl fp, (∀ Q : St → Hp → Prop, Q σ2 H1 → semG (blkX X scope s H0 C cl fp) tg v (wipe σ (own.map (·.2))) H1 Q) ∧
      ∀ Q : VK, (∀ y dy G2 H2, Ch W S G1 H1 G2 H2 → Rp X.K X.mg G2 y dy → Pv (i + 1) (acc ++ [dy]) G2 H2 → Q y H2) → semE (blkX X scope s H0 C cl fp) elt σ2 H1 Q)
    (q : ∀ p vs acc G2 H2, Ch W S G H G2 H2 → H p = none → G2 p = none → ¬ W.M p → H2 p = some (.lst vs) → RpA X.K X.mg G2 vs acc → acc.length = L.length → Pv L.length acc G2 H2 → Q (.ref p) H2)
    (hc : X.calm = true := by rfl) (hs : ∀ x, foldedSetIterable it X.env x = pure x := by intro _; rfl) : semE X (.ListComp elt [⟨tg, it, [], 0⟩] scope pos) σ H Q := by
  refine semE_of (pe_lc (g := fun v σ H Q => ∀ s H0 C cl fp, semG (blkX X scope s H0 C cl fp) tg v σ H Q) (tt := fun σ H Q => ∀ s H0 C cl fp, semTs (blkX X scope s H0 C cl fp) [] σ H Q) (te := fun σ H Q => ∀ s H0 C cl fp, semE (blkX X scope s H0 C cl fp) elt σ H Q) hc nd pi_sem ok
    (fun s H0 C cl fp => ⟨fun pins s' σ H v u Q I r h => h s H0 C cl fp pins s' u I r⟩) (fun s H0 C cl fp => ⟨fun pins s' σ H Q I h => h s H0 C cl fp pins s' I⟩) (fun s H0 C cl fp => ⟨fun pins s' σ H Q I h => h s H0 C cl fp pins s' I⟩) hs) ?_
  refine hi G H (Ch.refl k) _ fun J G2 H2 c2 I A hA => ?_
  have nA : ¬ W.M A := c2.ok.nm hA
  have gA : G2 A = none := c2.ok.gnone hA
  have c3 : Ch W N0 G2 H2 G2 (upd H2 A (.lst [])) := Ch.own c2.ok hA
  have hA1 : H A = none := c2.new_of hA
  have sA : ¬ S A := fun z => hS A z hA1
  refine ⟨fun i m H' => m = L.length - i ∧ i ≤ L.length ∧ ∃ G' vs acc, Ch W S G2 H2 G' H' ∧ G' A = none ∧ H' A = some (.lst vs) ∧ RpA X.K X.mg G' vs acc ∧ acc.length = i ∧ Pv i acc G' H',
    ⟨L.length, by simp, Nat.zero_le _, G2, [], [], c3.of0, gA, upd_same, .nil, rfl, h0 _ _ (c2.trans c3)⟩, ?_⟩
  rintro i m H' ⟨rfl, hi', G', vs, acc, c', g', h', ra, al, pv⟩
  by_cases hlt : i < L.length
  · have hL : L[i]? = some L[i] := List.getElem?_eq_getElem hlt
    refine .inr ⟨I.go i G' H' hlt c'.gg c'.ok, fun H4 => ∃ G4 vs acc, Ch W S G2 H2 G4 H4 ∧ G4 A = none ∧ H4 A = some (.lst vs) ∧ RpA X.K X.mg G4 vs acc ∧ acc.length = i + 1 ∧ Pv (i + 1) acc G4 H4, fun H4 z => ⟨L.length - (i + 1), by omega, rfl, hlt, z⟩, fun x H5 y => ?_⟩
    obtain ⟨G5, c5, r5⟩ := I.yld i L[i] G' H' x H5 hL c'.gg c'.ok y
    have c25 := c'.trans c5.of0
    have pv5 := mono i acc _ _ _ _ N0 c5 (fun x z => z.elim) pv
    obtain ⟨σ2, hw, hx⟩ := ht i L[i] acc G5 H5 x hL (c2.of0.trans c25) pv5 r5
    intro s H0 C cl fp
    refine (hx s H0 C cl fp).1 _ ⟨hw, ?_⟩
    have hA5 : H5 A = some (.lst vs) := c5.hh A _ nA (fun z => z) h'
    have gA5 : G5 A = none := c5.fr A (by rw [h']; exact fun z => nomatch z) g'
    intro s H0 C cl fp
    refine semTs_of pts_nil ?_
    show ∀ s H0 C cl fp, _
    intro s H0 C cl fp
    refine (hx s H0 C cl fp).2 _ fun v d G7 H7 c7 r7 p7 => ?_
    have hA7 : H7 A = some (.lst vs) := c7.hh A _ nA sA hA5
    have gA7 : G7 A = none := c7.fr A (by rw [hA5]; exact fun z => nomatch z) gA5
    have c27 := c25.trans c7
    have cw : Ch W (fun a => a = A) G7 H7 G7 (upd H7 A (.lst (vs ++ [v]))) := Ch.write c27.ok gA7 nA rfl
    have hlen : vs.length = i := by rw [ra.length, al]
    refine ⟨vs, hA7, by rw [sizeLine_eq]; omega, G7, vs ++ [v], acc ++ [d], c27.loc cw (fun x e => .inr (by rw [e]; exact hA)), gA7, upd_same, (ra.mono (c5.gg.trans c7.gg)).append (.cons r7 .nil), by rw [List.length_append, al]; rfl, mono _ _ _ _ _ _ (fun a => a = A) cw (fun x e z => sA (by rw [← e]; exact z)) p7⟩
  · have e : i = L.length := by omega
    subst e
    exact .inl ⟨I.stop G' H' c'.gg c'.ok, q A vs acc G' H' (c2.of0.trans c') hA1 g' nA h' ra al pv⟩
end
end GX
set_option Elab.async false
set_option linter.all false
set_option maxRecDepth 100000
namespace Hd
open PySem L2
set_option maxHeartbeats 0
def top (i : Nat) : Stmt := PySem.Challenge.pw_timesdone_k77_whole_rings_of_houses.main.body.getD i (.Pass ⟨0, 0, 0, 0⟩)
abbrev s_is_name : Stmt := top 7
abbrev s_are_names : Stmt := top 8
abbrev s_is_number : Stmt := top 14
abbrev s_is_house_step : Stmt := top 15
abbrev s_House_init : Stmt := inClass (top 16) 0
abbrev s_House_eq : Stmt := inClass (top 16) 1
abbrev s_House_len : Stmt := inClass (top 16) 2
abbrev s_House_wares : Stmt := inClass (top 16) 3
abbrev s_House_rooms : Stmt := inClass (top 16) 4
abbrev s_House_steps : Stmt := inClass (top 16) 5
abbrev s_House_steps_at : Stmt := inClass (top 16) 6
abbrev s_need_house : Stmt := top 17
abbrev s_reached : Stmt := top 18
abbrev s_rings_by : Stmt := top 19
abbrev s_rings : Stmt := top 20
abbrev s_law_begun : Stmt := top 22
abbrev s_law_mixed : Stmt := top 23
abbrev s_law_draw : Stmt := top 24
abbrev s_law_pick : Stmt := top 25
abbrev s_law_shuffled : Stmt := top 26
abbrev s_law_is : Stmt := top 27
abbrev s_law_house : Stmt := top 28
abbrev s_law : Stmt := top 29
def fn : List He.DefD := [
  ⟨("is_name", none), "is_name", "is_name", defArgs s_is_name, defBody s_is_name, defScope s_is_name, [], []⟩,
  ⟨("are_names", none), "are_names", "are_names", defArgs s_are_names, defBody s_are_names, defScope s_are_names, [], []⟩,
  ⟨("is_number", none), "is_number", "is_number", defArgs s_is_number, defBody s_is_number, defScope s_is_number, [], []⟩,
  ⟨("is_house_step", none), "is_house_step", "is_house_step", defArgs s_is_house_step, defBody s_is_house_step, defScope s_is_house_step, [], []⟩,
  ⟨("House", some "__init__"), "__init__", "House.__init__", defArgs s_House_init, defBody s_House_init, defScope s_House_init, [], []⟩,
  ⟨("House", some "__eq__"), "__eq__", "House.__eq__", defArgs s_House_eq, defBody s_House_eq, defScope s_House_eq, [], []⟩,
  ⟨("House", some "__len__"), "__len__", "House.__len__", defArgs s_House_len, defBody s_House_len, defScope s_House_len, [], []⟩,
  ⟨("House", some "wares"), "wares", "House.wares", defArgs s_House_wares, defBody s_House_wares, defScope s_House_wares, [], []⟩,
  ⟨("House", some "rooms"), "rooms", "House.rooms", defArgs s_House_rooms, defBody s_House_rooms, defScope s_House_rooms, [], []⟩,
  ⟨("House", some "steps"), "steps", "House.steps", defArgs s_House_steps, defBody s_House_steps, defScope s_House_steps, [], []⟩,
  ⟨("House", some "steps_at"), "steps_at", "House.steps_at", defArgs s_House_steps_at, defBody s_House_steps_at, defScope s_House_steps_at, [], []⟩,
  ⟨("need_house", none), "need_house", "need_house", defArgs s_need_house, defBody s_need_house, defScope s_need_house, [], []⟩,
  ⟨("reached", none), "reached", "reached", defArgs s_reached, defBody s_reached, defScope s_reached, [], []⟩,
  ⟨("rings_by", none), "rings_by", "rings_by", defArgs s_rings_by, defBody s_rings_by, defScope s_rings_by, [], []⟩,
  ⟨("rings", none), "rings", "rings", defArgs s_rings, defBody s_rings, defScope s_rings, [], []⟩,
  ⟨("_law_begun", none), "_law_begun", "_law_begun", defArgs s_law_begun, defBody s_law_begun, defScope s_law_begun, [], []⟩,
  ⟨("_law_mixed", none), "_law_mixed", "_law_mixed", defArgs s_law_mixed, defBody s_law_mixed, defScope s_law_mixed, [], []⟩,
  ⟨("_law_draw", none), "_law_draw", "_law_draw", defArgs s_law_draw, defBody s_law_draw, defScope s_law_draw, [], []⟩,
  ⟨("_law_pick", none), "_law_pick", "_law_pick", defArgs s_law_pick, defBody s_law_pick, defScope s_law_pick, [], []⟩,
  ⟨("_law_shuffled", none), "_law_shuffled", "_law_shuffled", defArgs s_law_shuffled, defBody s_law_shuffled, defScope s_law_shuffled, [], []⟩,
  ⟨("_law_is", none), "_law_is", "_law_is", defArgs s_law_is, defBody s_law_is, defScope s_law_is, [], []⟩,
  ⟨("_law_house", none), "_law_house", "_law_house", defArgs s_law_house, defBody s_law_house, defScope s_law_house, [], []⟩,
  ⟨("law", none), "law", "law", defArgs s_law, defBody s_law, defScope s_law, [], []⟩]
def fa : List He.Fa := [.glo "_wall", .glo "is_name", .glo "are_names", .glo "is_number", .glo "is_house_step", .glo "need_house", .glo "reached", .glo "rings_by", .glo "rings", .glo "_law_begun", .glo "_law_mixed", .glo "_law_draw", .glo "_law_pick", .glo "_law_shuffled", .glo "_law_is", .glo "_law_house", .glo "law", .glo "RoundError", .glo "NoHouse", .glo "House", .free "ValueError", .free "abs", .free "all", .free "bool", .free "dict", .free "enumerate", .free "int", .free "isinstance", .free "len", .free "list", .free "min", .free "range", .free "repr", .free "set", .free "str", .free "tuple", .cls "House", .mkr "House", .noat "House" "house_steps", .noat "House" "room_names", .noat "House" "ware_names", .meth "House" "__eq__", .meth "House" "__len__", .meth "House" "wares", .meth "House" "rooms", .meth "House" "steps", .meth "House" "steps_at", .str "LETTERS" "abcdefghijklmnopqrstuvwxyz", .glo "OWN", .int "MOST_WARES" (5), .int "MOST_ROOMS" (4), .int "MOST_STEPS" (8), .int "MOST_CHANGE" (9)]
def x_tup_OWN (K : PySem.W.Frag) : Bool := He.tupB K "OWN" [.str "words", .str "places", .str "begin", .str "to", .str "when", .str "then"]
def x_isi_House (K : PySem.W.Frag) : Bool := GX.isiB K (He.ga K "House")
def ex (K : PySem.W.Frag) : Bool := x_tup_OWN K && (x_isi_House K && (true))
abbrev T (K : PySem.W.Frag) (mg : Str → Option Value) : Prop := GX.Tx fa fn ex K mg
section
variable {K : PySem.W.Frag} {mg : Str → Option Value} (t : T K mg)
include t
theorem g_wall : mg "_wall" = some (.ref (He.ga K "_wall")) := t.g 0 _ rfl
theorem g_is_name : mg "is_name" = some (.ref (He.ga K "is_name")) := t.g 1 _ rfl
theorem g_are_names : mg "are_names" = some (.ref (He.ga K "are_names")) := t.g 2 _ rfl
theorem g_is_number : mg "is_number" = some (.ref (He.ga K "is_number")) := t.g 3 _ rfl
theorem g_is_house_step : mg "is_house_step" = some (.ref (He.ga K "is_house_step")) := t.g 4 _ rfl
theorem g_need_house : mg "need_house" = some (.ref (He.ga K "need_house")) := t.g 5 _ rfl
theorem g_reached : mg "reached" = some (.ref (He.ga K "reached")) := t.g 6 _ rfl
theorem g_rings_by : mg "rings_by" = some (.ref (He.ga K "rings_by")) := t.g 7 _ rfl
theorem g_rings : mg "rings" = some (.ref (He.ga K "rings")) := t.g 8 _ rfl
theorem g_law_begun : mg "_law_begun" = some (.ref (He.ga K "_law_begun")) := t.g 9 _ rfl
theorem g_law_mixed : mg "_law_mixed" = some (.ref (He.ga K "_law_mixed")) := t.g 10 _ rfl
theorem g_law_draw : mg "_law_draw" = some (.ref (He.ga K "_law_draw")) := t.g 11 _ rfl
theorem g_law_pick : mg "_law_pick" = some (.ref (He.ga K "_law_pick")) := t.g 12 _ rfl
theorem g_law_shuffled : mg "_law_shuffled" = some (.ref (He.ga K "_law_shuffled")) := t.g 13 _ rfl
theorem g_law_is : mg "_law_is" = some (.ref (He.ga K "_law_is")) := t.g 14 _ rfl
theorem g_law_house : mg "_law_house" = some (.ref (He.ga K "_law_house")) := t.g 15 _ rfl
theorem g_law : mg "law" = some (.ref (He.ga K "law")) := t.g 16 _ rfl
theorem g_RoundError : mg "RoundError" = some (.ref (He.ga K "RoundError")) := t.g 17 _ rfl
theorem g_NoHouse : mg "NoHouse" = some (.ref (He.ga K "NoHouse")) := t.g 18 _ rfl
theorem g_House : mg "House" = some (.ref (He.ga K "House")) := t.g 19 _ rfl
theorem n_ValueError : mg "ValueError" = none := t.n 20 _ rfl
theorem n_abs : mg "abs" = none := t.n 21 _ rfl
theorem n_all : mg "all" = none := t.n 22 _ rfl
theorem n_bool : mg "bool" = none := t.n 23 _ rfl
theorem n_dict : mg "dict" = none := t.n 24 _ rfl
theorem n_enumerate : mg "enumerate" = none := t.n 25 _ rfl
theorem n_int : mg "int" = none := t.n 26 _ rfl
theorem n_isinstance : mg "isinstance" = none := t.n 27 _ rfl
theorem n_len : mg "len" = none := t.n 28 _ rfl
theorem n_list : mg "list" = none := t.n 29 _ rfl
theorem n_min : mg "min" = none := t.n 30 _ rfl
theorem n_range : mg "range" = none := t.n 31 _ rfl
theorem n_repr : mg "repr" = none := t.n 32 _ rfl
theorem n_set : mg "set" = none := t.n 33 _ rfl
theorem n_str : mg "str" = none := t.n 34 _ rfl
theorem n_tuple : mg "tuple" = none := t.n 35 _ rfl
theorem cls_House : Cls K (He.ga K "House") := He.cls_ok (t.f 36 _ rfl)
theorem mkr_House : Mk K (He.ga K "House") (He.ma K (He.ga K "House") "__init__") := He.mkr_ok (t.f 37 _ rfl)
theorem no_House_house_steps : NoAttr K (He.ga K "House") "house_steps" := He.noat_ok (t.f 38 _ rfl)
theorem no_House_room_names : NoAttr K (He.ga K "House") "room_names" := He.noat_ok (t.f 39 _ rfl)
theorem no_House_ware_names : NoAttr K (He.ga K "House") "ware_names" := He.noat_ok (t.f 40 _ rfl)
theorem me_House_eq : Meth K (He.ga K "House") "__eq__" (He.ma K (He.ga K "House") "__eq__") := He.meth_ok (t.f 41 _ rfl)
theorem me_House_len : Meth K (He.ga K "House") "__len__" (He.ma K (He.ga K "House") "__len__") := He.meth_ok (t.f 42 _ rfl)
theorem me_House_wares : Meth K (He.ga K "House") "wares" (He.ma K (He.ga K "House") "wares") := He.meth_ok (t.f 43 _ rfl)
theorem me_House_rooms : Meth K (He.ga K "House") "rooms" (He.ma K (He.ga K "House") "rooms") := He.meth_ok (t.f 44 _ rfl)
theorem me_House_steps : Meth K (He.ga K "House") "steps" (He.ma K (He.ga K "House") "steps") := He.meth_ok (t.f 45 _ rfl)
theorem me_House_steps_at : Meth K (He.ga K "House") "steps_at" (He.ma K (He.ga K "House") "steps_at") := He.meth_ok (t.f 46 _ rfl)
theorem i_LETTERS : ∃ k, mg "LETTERS" = some (.str "abcdefghijklmnopqrstuvwxyz" k) := t.s 47 _ _ rfl
theorem g_OWN : mg "OWN" = some (.ref (He.ga K "OWN")) := t.g 48 _ rfl
theorem i_MOST_WARES : ∃ k, mg "MOST_WARES" = some (.int (5) k) := t.i 49 _ _ rfl
theorem i_MOST_ROOMS : ∃ k, mg "MOST_ROOMS" = some (.int (4) k) := t.i 50 _ _ rfl
theorem i_MOST_STEPS : ∃ k, mg "MOST_STEPS" = some (.int (8) k) := t.i 51 _ _ rfl
theorem i_MOST_CHANGE : ∃ k, mg "MOST_CHANGE" = some (.int (9) k) := t.i 52 _ _ rfl
theorem tup_OWN : He.tupB K "OWN" [.str "words", .str "places", .str "begin", .str "to", .str "when", .str "then"] = true := by
  have h : ex K = true := t.e
  unfold ex at h
  simp only [Bool.and_eq_true] at h
  exact h.1
theorem isi_House : GX.isiB K (He.ga K "House") = true := by
  have h : ex K = true := t.e
  unfold ex at h
  simp only [Bool.and_eq_true] at h
  exact h.2.1
theorem d_is_name : ∃ fd, FunD K "is_name" "is_name" (defArgs s_is_name) (defBody s_is_name) (defScope s_is_name) [] [] (He.ga K "is_name") fd := t.d 0 _ rfl
theorem d_are_names : ∃ fd, FunD K "are_names" "are_names" (defArgs s_are_names) (defBody s_are_names) (defScope s_are_names) [] [] (He.ga K "are_names") fd := t.d 1 _ rfl
theorem d_is_number : ∃ fd, FunD K "is_number" "is_number" (defArgs s_is_number) (defBody s_is_number) (defScope s_is_number) [] [] (He.ga K "is_number") fd := t.d 2 _ rfl
theorem d_is_house_step : ∃ fd, FunD K "is_house_step" "is_house_step" (defArgs s_is_house_step) (defBody s_is_house_step) (defScope s_is_house_step) [] [] (He.ga K "is_house_step") fd := t.d 3 _ rfl
theorem d_House_init : ∃ fd, FunD K "__init__" "House.__init__" (defArgs s_House_init) (defBody s_House_init) (defScope s_House_init) [] [] (He.ma K (He.ga K "House") "__init__") fd := t.d 4 _ rfl
theorem d_House_eq : ∃ fd, FunD K "__eq__" "House.__eq__" (defArgs s_House_eq) (defBody s_House_eq) (defScope s_House_eq) [] [] (He.ma K (He.ga K "House") "__eq__") fd := t.d 5 _ rfl
theorem d_House_len : ∃ fd, FunD K "__len__" "House.__len__" (defArgs s_House_len) (defBody s_House_len) (defScope s_House_len) [] [] (He.ma K (He.ga K "House") "__len__") fd := t.d 6 _ rfl
theorem d_House_wares : ∃ fd, FunD K "wares" "House.wares" (defArgs s_House_wares) (defBody s_House_wares) (defScope s_House_wares) [] [] (He.ma K (He.ga K "House") "wares") fd := t.d 7 _ rfl
theorem d_House_rooms : ∃ fd, FunD K "rooms" "House.rooms" (defArgs s_House_rooms) (defBody s_House_rooms) (defScope s_House_rooms) [] [] (He.ma K (He.ga K "House") "rooms") fd := t.d 8 _ rfl
theorem d_House_steps : ∃ fd, FunD K "steps" "House.steps" (defArgs s_House_steps) (defBody s_House_steps) (defScope s_House_steps) [] [] (He.ma K (He.ga K "House") "steps") fd := t.d 9 _ rfl
theorem d_House_steps_at : ∃ fd, FunD K "steps_at" "House.steps_at" (defArgs s_House_steps_at) (defBody s_House_steps_at) (defScope s_House_steps_at) [] [] (He.ma K (He.ga K "House") "steps_at") fd := t.d 10 _ rfl
theorem d_need_house : ∃ fd, FunD K "need_house" "need_house" (defArgs s_need_house) (defBody s_need_house) (defScope s_need_house) [] [] (He.ga K "need_house") fd := t.d 11 _ rfl
theorem d_reached : ∃ fd, FunD K "reached" "reached" (defArgs s_reached) (defBody s_reached) (defScope s_reached) [] [] (He.ga K "reached") fd := t.d 12 _ rfl
theorem d_rings_by : ∃ fd, FunD K "rings_by" "rings_by" (defArgs s_rings_by) (defBody s_rings_by) (defScope s_rings_by) [] [] (He.ga K "rings_by") fd := t.d 13 _ rfl
theorem d_rings : ∃ fd, FunD K "rings" "rings" (defArgs s_rings) (defBody s_rings) (defScope s_rings) [] [] (He.ga K "rings") fd := t.d 14 _ rfl
theorem d_law_begun : ∃ fd, FunD K "_law_begun" "_law_begun" (defArgs s_law_begun) (defBody s_law_begun) (defScope s_law_begun) [] [] (He.ga K "_law_begun") fd := t.d 15 _ rfl
theorem d_law_mixed : ∃ fd, FunD K "_law_mixed" "_law_mixed" (defArgs s_law_mixed) (defBody s_law_mixed) (defScope s_law_mixed) [] [] (He.ga K "_law_mixed") fd := t.d 16 _ rfl
theorem d_law_draw : ∃ fd, FunD K "_law_draw" "_law_draw" (defArgs s_law_draw) (defBody s_law_draw) (defScope s_law_draw) [] [] (He.ga K "_law_draw") fd := t.d 17 _ rfl
theorem d_law_pick : ∃ fd, FunD K "_law_pick" "_law_pick" (defArgs s_law_pick) (defBody s_law_pick) (defScope s_law_pick) [] [] (He.ga K "_law_pick") fd := t.d 18 _ rfl
theorem d_law_shuffled : ∃ fd, FunD K "_law_shuffled" "_law_shuffled" (defArgs s_law_shuffled) (defBody s_law_shuffled) (defScope s_law_shuffled) [] [] (He.ga K "_law_shuffled") fd := t.d 19 _ rfl
theorem d_law_is : ∃ fd, FunD K "_law_is" "_law_is" (defArgs s_law_is) (defBody s_law_is) (defScope s_law_is) [] [] (He.ga K "_law_is") fd := t.d 20 _ rfl
theorem d_law_house : ∃ fd, FunD K "_law_house" "_law_house" (defArgs s_law_house) (defBody s_law_house) (defScope s_law_house) [] [] (He.ga K "_law_house") fd := t.d 21 _ rfl
theorem d_law : ∃ fd, FunD K "law" "law" (defArgs s_law) (defBody s_law) (defScope s_law) [] [] (He.ga K "law") fd := t.d 22 _ rfl
end
end Hd
set_option Elab.async false
set_option linter.all false
set_option maxRecDepth 100000
set_option maxHeartbeats 4000000
namespace Fx
open PySem L2 GX Hd
variable {P : Program} {w : World} {K : PySem.W.Frag} {mg : Str → Option Value} {base : Heap}
/-! ### is_number -/
def isNumber (d : D) : Bool := isInt d && !isBl d
def F_is_number (ds : List D) (d : D) : Prop := ∃ t, ds = [t] ∧ insOf t = none ∧ d = .bl (isNumber t)
theorem sc_is_number : FnScope ["thing"] ["thing"] (defScope s_is_number) := ⟨rfl, rfl, rfl, by decide +kernel, rfl, by decide +kernel, by decide +kernel⟩
theorem c_is_number (t : T K mg) : CalD P w K mg base "is_number" 1 ["thing"] F_is_number := by
  obtain ⟨fd, Fd⟩ := d_is_number t
  refine mk_cal Fd (mk_fn Fd sc_is_number (fun ds d ⟨_, e, _⟩ => by rw [e]; rfl) ?_) (g_is_number t) (fun _ _ _ _ _ _ us hl => match us, hl with | [_], _ => rfl)
  intro cdv A outer s H vs Q E G ds d hr ko r hF q
  obtain ⟨th, rfl, hi, rfl⟩ := hF
  obtain ⟨v, rfl, rt⟩ := r.one
  refine q_ret ko (ev_and (ev_isInt (n_isinstance t) (n_int t) (ev_v 0 rt) hi) fun _ => ev_one (ev_not (ev_isBl (n_isinstance t) (n_bool t) (ev_v 0 rt) hi))) fun v d G1 H1 c e rv => ?_
  subst e
  exact q v G1 H1 c rv
/-! ### is_name -/
def lettersL : Str := "abcdefghijklmnopqrstuvwxyz"
def ownL : List Str := ["words", "places", "begin", "to", "when", "then"]
def isNameS (x : Str) : Bool := (decide ((1 : Int) ≤ x.length) && decide ((x.length : Int) ≤ 6)) && !decide (x ∈ ownL) && x.cps.toList.all fun c => decide (c ∈ lettersL.cps.toList)
def isName : D → Bool | .str x => isNameS x | _ => false
def F_is_name (ds : List D) (d : D) : Prop := ∃ t, ds = [t] ∧ insOf t = none ∧ (∀ x, t = .str x → x.length ≤ sizeLine) ∧ d = .bl (isName t)
theorem sc_is_name : FnScope ["thing", "sign"] ["thing"] (defScope s_is_name) := ⟨rfl, rfl, rfl, by decide +kernel, rfl, by decide +kernel, by decide +kernel⟩
theorem rp_OWN (t : T K mg) (H : Hp) : Rp K mg H (.ref (He.ga K "OWN")) (.tup (ownL.map .str)) :=
  .tup (He.tupB_ok (tup_OWN t) H) (RpA.strs ownL)
theorem c_is_name (t : T K mg) : CalD P w K mg base "is_name" 1 ["thing"] F_is_name := by
  obtain ⟨fd, Fd⟩ := d_is_name t
  refine mk_cal Fd (mk_fn Fd sc_is_name (fun ds d ⟨_, e, _⟩ => by rw [e]; rfl) ?_) (g_is_name t) (fun _ _ _ _ _ _ us hl => match us, hl with | [_], _ => rfl)
  intro cdv A outer s H vs Q E G ds d hr ko r hF q
  obtain ⟨th, rfl, hi, hs, rfl⟩ := hF
  obtain ⟨v, rfl, rt⟩ := r.one
  have nd := sc_is_name.nd
  have fin : ∀ (b : Bool) G1 H1, Ch W0 N0 G H G1 H1 → isName th = b → ∀ v, Rp K mg G1 v (.bl b) → Q v H1 := fun b G1 H1 c e v rv => q v G1 H1 c (by rw [e]; exact rv)
  by_cases hst : isStr th = true
  · obtain ⟨x, rfl⟩ : ∃ x, th = .str x := by cases th <;> first | (simp [isStr] at hst; done) | exact ⟨_, rfl⟩
    refine q_if ko (EvW.t (ew_or (et_not (et_val1 (ev_isStr (n_isinstance t) (n_str t) (ev_v 0 rt) hi))) fun _ => ew_or (et_not (et_lele ev_int (ev_lenS (n_len t) (ev_v 0 rt) (hs x rfl)) ev_int)) fun _ =>
      ew_or1 (et_inS (xs := ownL) (ev_v 0 rt) (ev_globR (g_OWN t) (rp_OWN t))))) (fun e1 G1 H1 c1 => ?_) (fun e1 G1 H1 c1 => ?_)
    · refine q_ret c1.ok ev_bl fun v d G2 H2 c2 e rv => ?_
      subst e
      refine fin false G2 H2 (c1.trans c2) ?_ v rv
      show isNameS x = false
      unfold isNameS
      revert e1
      cases decide ((1 : Int) ≤ x.length) <;> cases decide ((x.length : Int) ≤ 6) <;> cases decide (x ∈ ownL) <;> simp [isStr]
    · refine q_nil ?_
      have e2 : (decide ((1 : Int) ≤ x.length) && decide ((x.length : Int) ≤ 6)) = true ∧ decide (x ∈ ownL) = false := by
        revert e1
        cases decide ((1 : Int) ≤ x.length) <;> cases decide ((x.length : Int) ≤ 6) <;> cases decide (x ∈ ownL) <;> simp [isStr]
      have hlen : x.cps.toList.length ≤ 6 := by
        have := (Bool.and_eq_true_iff.mp e2.1).2
        have := of_decide_eq_true this
        have e3 : x.cps.toList.length = x.length := rfl
        omega
      refine q_ret c1.ok (ev_all (n_all t) rfl ((en_lc (f := fun d => .bl (match d with | .str z => decide (z.cps.getD 0 0 ∈ lettersL.cps.toList) | _ => false)) [("sign", 1)] nd
        (blkOk_by (N := ["thing", "sign"]) (sc := defScope s_is_name) (by decide +kernel)) (ei_str (ev_v 0 (rt.mono c1.gg))) (by rw [List.length_map]; omega) (fun i d v G2 H2 hd c2 rv => lc1' 1 nd (fun s H0 C cl fp => ?_) c2.ok)).bls (bs := x.cps.toList.map fun c => decide (c ∈ lettersL.cps.toList)) ?_)) (fun v d G2 H2 c2 e rv => ?_)
      · rw [List.getElem?_map] at hd
        obtain ⟨c, _, rfl⟩ := Option.map_eq_some_iff.mp hd
        exact (ev_inSign (ev_v 1 rv) (ev_globS (i_LETTERS t)))
      · rw [filter_true, List.map_map, List.map_map]
        rfl
      · subst e
        refine fin _ G2 H2 (c1.trans c2) ?_ v rv
        show isNameS x = _
        unfold isNameS
        rw [e2.1, e2.2, List.all_map]
        rfl
  · have hst' : isStr th = false := by simpa using hst
    refine q_if ko (EvW.t (ew_or (l := false) (et_not (et_val1 (ev_isStr (n_isinstance t) (n_str t) (ev_v 0 rt) hi))) fun h => by rw [hst'] at h; cases h)) (fun e1 G1 H1 c1 => ?_) (fun e1 G1 H1 c1 => ?_)
    · refine q_ret c1.ok ev_bl fun v d G2 H2 c2 e rv => ?_
      subst e
      refine fin false G2 H2 (c1.trans c2) ?_ v rv
      cases th <;> first | rfl | (simp [isStr] at hst'; done)
    · rw [hst'] at e1; cases e1
end Fx
set_option Elab.async false
set_option linter.all false
set_option maxRecDepth 100000
set_option maxHeartbeats 4000000
namespace Fx
open PySem L2 GX Hd
variable {P : Program} {w : World} {K : PySem.W.Frag} {mg : Str → Option Value} {base : Heap}
/-! ### are_names, of lists and tuples of texts -/
def areNames (xs : List Str) (m : Int) : Bool := (decide ((1 : Int) ≤ xs.length) && decide ((xs.length : Int) ≤ m)) && (xs.all isNameS && decide xs.Nodup)
def F_are_names (ds : List D) (d : D) : Prop := ∃ t xs m, ds = [t, .int m] ∧ seq? t = some (xs.map .str) ∧ xs.length < 1000 ∧ (∀ x ∈ xs, x.length ≤ sizeLine) ∧ d = .bl (areNames xs m)
theorem sc_are_names : FnScope ["thing", "most", "name"] ["thing", "most"] (defScope s_are_names) := ⟨rfl, rfl, rfl, by decide +kernel, rfl, by decide +kernel, by decide +kernel⟩
theorem seq_ins {t : D} {l : List D} (h : seq? t = some l) : insOf t = none := by cases t <;> simp [seq?] at h <;> rfl
theorem seq_is {t : D} {l : List D} (h : seq? t = some l) : (isLst t || isTup t) = true := by cases t <;> simp [seq?] at h <;> rfl
theorem c_are_names (t : T K mg) : CalD P w K mg base "are_names" 2 ["thing", "most"] F_are_names := by
  obtain ⟨fd, Fd⟩ := d_are_names t
  refine mk_cal Fd (mk_fn Fd sc_are_names (fun ds d ⟨_, _, _, e, _⟩ => by rw [e]; rfl) ?_) (g_are_names t) (fun _ _ _ _ _ _ us hl => match us, hl with | [_, _], _ => rfl)
  intro cdv A outer s H vs Q E G ds d hr ko r hF q
  obtain ⟨th, xs, m, rfl, hs, hl, hz, rfl⟩ := hF
  obtain ⟨v, u, rfl, rt, rm⟩ := r.two
  have nd := sc_are_names.nd
  have hlen : (xs.map D.str).length = xs.length := List.length_map _
  have fin : ∀ (b : Bool) G1 H1, Ch W0 N0 G H G1 H1 → areNames xs m = b → ∀ v, Rp K mg G1 v (.bl b) → Q v H1 := fun b G1 H1 c e v rv => q v G1 H1 c (by rw [e]; exact rv)
  refine q_if ko (EvW.t (ew_or (et_not (et_val1 (ev_isSeq (n_isinstance t) (n_list t) (n_tuple t) (ev_v 0 rt) (seq_ins hs)))) fun _ => ew_or1 (et_not (et_lele ev_int (ev_len (n_len t) (ev_v 0 rt) hs) (ev_v 1 rm))))) (fun e1 G1 H1 c1 => ?_) (fun e1 G1 H1 c1 => ?_)
  · rw [seq_is hs, hlen] at e1
    refine q_ret c1.ok ev_bl fun v d G2 H2 c2 e rv => ?_
    subst e
    refine fin false G2 H2 (c1.trans c2) ?_ v rv
    unfold areNames
    revert e1
    cases (decide ((1 : Int) ≤ xs.length) && decide ((xs.length : Int) ≤ m)) <;> simp
  · rw [seq_is hs, hlen] at e1
    have e2 : (decide ((1 : Int) ≤ xs.length) && decide ((xs.length : Int) ≤ m)) = true := by
      revert e1
      cases (decide ((1 : Int) ≤ xs.length) && decide ((xs.length : Int) ≤ m)) <;> simp
    refine q_nil ?_
    refine q_ret c1.ok (ev_and (ev_all (n_all t) rfl ((en_lc (f := fun d => .bl (isName d)) [("name", 2)] nd (blkOk_by (N := ["thing", "most", "name"]) (sc := defScope s_are_names) (by decide +kernel)) (ei_seq (ev_v 0 (rt.mono c1.gg)) hs) (by rw [hlen]; omega)
      (fun i d v G2 H2 hd c2 rv => lc1' 2 nd (fun s H0 C cl fp => ?_) c2.ok)).bls (bs := xs.map isNameS) ?_)) fun _ => ev_one (ev_setAll (ev_lenSet rfl (n_len t) (n_set t) (ev_v 0 (rt.mono c1.gg)) hs (by omega)) ?_)) (fun v d G2 H2 c2 e rv => ?_)
    · rw [List.getElem?_map] at hd
      obtain ⟨x, hx, rfl⟩ := Option.map_eq_some_iff.mp hd
      exact ev_call (c_is_name t) (hr.mono (by decide)) (ea_cons (ev_v 2 rv) ea_nil) ⟨.str x, rfl, rfl, fun y e => by cases e; exact hz _ (List.mem_of_getElem? hx), rfl⟩
    · rw [filter_true, List.map_map, List.map_map]
      rfl
    · exact (ev_len (n_len t) (ev_v 0 (rt.mono c1.gg)) hs).imp fun d e => by rw [e, hlen]
    · subst e
      refine fin _ G2 H2 (c1.trans c2) ?_ v rv
      unfold areNames
      rw [e2, List.all_map]
      rfl
/-! ### is_house_step, of a tuple of a text, a tuple of numbers, a text -/
def stepD (p : Str) (c : List Int) (q : Str) : D := .tup [.str p, .tup (c.map .int), .str q]
def isStepB (p : Str) (c : List Int) (q : Str) (many : Int) (rooms : List Str) : Bool := isNameS p && (isNameS q && (decide (p ∈ rooms) && (decide (q ∈ rooms) && (decide ((c.length : Int) = many) && c.all fun i => decide (-9 ≤ i) && decide (i ≤ 9)))))
def F_is_house_step (ds : List D) (d : D) : Prop := ∃ p c q many rooms rd, ds = [stepD p c q, .int many, rd] ∧ seq? rd = some (rooms.map .str) ∧ c.length < 1000 ∧ p.length ≤ sizeLine ∧ q.length ≤ sizeLine ∧ d = .bl (isStepB p c q many rooms)
theorem sc_is_house_step : FnScope ["thing", "many", "rooms", "one"] ["thing", "many", "rooms"] (defScope s_is_house_step) := ⟨rfl, rfl, rfl, by decide +kernel, rfl, by decide +kernel, by decide +kernel⟩
theorem RpA.three {K : PySem.W.Frag} {mg : Str → Option Value} {G : Hp} {vs : List V} {d e f : D} (h : RpA K mg G vs [d, e, f]) : ∃ v w u, vs = [v, w, u] ∧ Rp K mg G v d ∧ Rp K mg G w e ∧ Rp K mg G u f := by
  cases h with
  | cons a h => cases h with
    | cons b h => cases h with
      | cons c h => cases h; exact ⟨_, _, _, rfl, a, b, c⟩
theorem c_is_house_step (t : T K mg) : CalD P w K mg base "is_house_step" 2 ["thing", "many", "rooms"] F_is_house_step := by
  obtain ⟨fd, Fd⟩ := d_is_house_step t
  refine mk_cal Fd (mk_fn Fd sc_is_house_step (fun ds d ⟨_, _, _, _, _, _, e, _⟩ => by rw [e]; rfl) ?_) (g_is_house_step t) (fun _ _ _ _ _ _ us hl => match us, hl with | [_, _, _], _ => rfl)
  intro cdv A outer s H vs Q E G ds d hr ko r hF q
  obtain ⟨p, c, qq, many, rooms, rd, rfl, hs, hl, hp, hq, rfl⟩ := hF
  obtain ⟨v, u, x, rfl, rt, rm, rr⟩ := RpA.three r
  have nd := sc_is_house_step.nd
  have fin : ∀ (b : Bool) G1 H1, Ch W0 N0 G H G1 H1 → isStepB p c qq many rooms = b → ∀ v, Rp K mg G1 v (.bl b) → Q v H1 := fun b G1 H1 c e v rv => q v G1 H1 c (by rw [e]; exact rv)
  have nm : ∀ y : Str, y.length ≤ sizeLine → F_is_name [.str y] (.bl (isNameS y)) := fun y hy => ⟨.str y, rfl, rfl, fun z e => by cases e; exact hy, rfl⟩
  refine q_if ko (EvW.t (ew_or (et_not (et_val1 (ev_isTup (n_isinstance t) (n_tuple t) (ev_v 0 rt) rfl))) fun _ => ew_or (et_neI (ev_len (n_len t) (ev_v 0 rt)) ev_int) fun _ =>
    ew_or (et_not (et_val1 (ev_call (c_is_name t) (hr.mono (by decide)) (ea_cons (ev_ixT (ev_v 0 rt) ev_int) ea_nil) (nm p hp)))) fun _ => ew_or1 (et_not (et_val1 (ev_call (c_is_name t) (hr.mono (by decide)) (ea_cons (ev_ixT (ev_v 0 rt) ev_int) ea_nil) (nm qq hq)))))) (fun e1 G1 H1 c1 => ?_) (fun e1 G1 H1 c1 => ?_)
  · have e2 : (!isNameS p || !isNameS qq) = true := e1.symm
    refine q_ret c1.ok ev_bl fun v d G2 H2 c2 e rv => ?_
    subst e
    refine fin false G2 H2 (c1.trans c2) ?_ v rv
    unfold isStepB
    revert e2
    cases isNameS p <;> cases isNameS qq <;> simp
  · have e2 : (!isNameS p || !isNameS qq) = false := e1.symm
    have e3 : isNameS p = true ∧ isNameS qq = true := by
      revert e2
      cases isNameS p <;> cases isNameS qq <;> simp
    refine q_nil ?_
    refine q_if c1.ok (EvW.t (ew_or (et_niS (ev_ixT (ev_v 0 (rt.mono c1.gg)) ev_int) (ev_v 2 (rr.mono c1.gg)) hs) fun _ => ew_or (et_niS (ev_ixT (ev_v 0 (rt.mono c1.gg)) ev_int) (ev_v 2 (rr.mono c1.gg)) hs) fun _ =>
      ew_or (et_not (et_val1 (ev_isTup (n_isinstance t) (n_tuple t) (ev_ixT (ev_v 0 (rt.mono c1.gg)) ev_int) rfl))) fun _ => ew_or1 (et_neI (ev_len (n_len t) (ev_ixT (ev_v 0 (rt.mono c1.gg)) ev_int)) (ev_v 1 (rm.mono c1.gg))))) (fun e4 G2 H2 c2 => ?_) (fun e4 G2 H2 c2 => ?_)
    · rw [List.length_map] at e4
      refine q_ret c2.ok ev_bl fun v d G3 H3 c3 e rv => ?_
      subst e
      refine fin false G3 H3 (c1.trans (c2.trans c3)) ?_ v rv
      unfold isStepB
      rw [e3.1, e3.2]
      revert e4
      cases decide (p ∈ rooms) <;> cases decide (qq ∈ rooms) <;> cases decide ((c.length : Int) = many) <;> simp [isTup]
    · rw [List.length_map] at e4
      have e5 : decide (p ∈ rooms) = true ∧ decide (qq ∈ rooms) = true ∧ decide ((c.length : Int) = many) = true := by
        revert e4
        cases decide (p ∈ rooms) <;> cases decide (qq ∈ rooms) <;> cases decide ((c.length : Int) = many) <;> simp [isTup]
      refine q_nil ?_
      have c12 := c1.trans c2
      refine q_ret c2.ok (ev_all (n_all t) rfl ((en_lc (f := fun d => .bl (match d with | .int i => decide (-9 ≤ i) && decide (i ≤ 9) | _ => false)) [("one", 3)] nd (blkOk_by (N := ["thing", "many", "rooms", "one"]) (sc := defScope s_is_house_step) (by decide +kernel)) (ei_tup (ev_ixT (ev_v 0 (rt.mono c12.gg)) ev_int)) (by rw [List.length_map]; omega)
        (fun i d v G3 H3 hd c3 rv => lc1' 3 nd (fun s H0 C cl fp => ?_) c3.ok)).bls (bs := c.map fun i => decide (-9 ≤ i) && decide (i ≤ 9)) ?_)) (fun v d G3 H3 c3 e rv => ?_)
      · rw [List.getElem?_map] at hd
        obtain ⟨i, hx, rfl⟩ := Option.map_eq_some_iff.mp hd
        exact ev_and (k := true) (ev_call (c_is_number t) (hr.mono (by decide)) (ea_cons (ev_v 3 rv) ea_nil) ⟨.int i, rfl, rfl, rfl⟩) fun _ => ev_one (ev_lele (ev_sub ev_int (ev_globI (i_MOST_CHANGE t))) (ev_v 3 rv) (ev_globI (i_MOST_CHANGE t)))
      · rw [filter_true, List.map_map, List.map_map]
        rfl
      · subst e
        refine fin _ G3 H3 (c12.trans c3) ?_ v rv
        unfold isStepB
        rw [e3.1, e3.2, e5.1, e5.2.1, e5.2.2, List.all_map]
        rfl
end Fx
set_option Elab.async false
set_option linter.all false
set_option maxRecDepth 100000
set_option maxHeartbeats 4000000
namespace Fx
open PySem L2 GX Hd
variable {P : Program} {w : World} {K : PySem.W.Frag} {mg : Str → Option Value} {base : Heap}
/-! ### class House -/
abbrev Stp := Str × List Int × Str
def stpD (s : Stp) : D := stepD s.1 s.2.1 s.2.2
def fldsH (ws rs : List Str) (ss : List Stp) : List (Str × D) := [("ware_names", .lst (ws.map .str)), ("room_names", .lst (rs.map .str)), ("house_steps", .lst (ss.map stpD))]
def houseD (ws rs : List Str) (ss : List Stp) : D := .ins "House" (fldsH ws rs ss)
structure HOk (ws rs : List Str) (ss : List Stp) : Prop where
  w : areNames ws 5 = true
  r : areNames rs 4 = true
  s1 : 1 ≤ ss.length
  s2 : ss.length ≤ 8
  st : ∀ s ∈ ss, isStepB s.1 s.2.1 s.2.2 ws.length rs = true
  zw : ∀ x ∈ ws, x.length ≤ sizeLine
  zr : ∀ x ∈ rs, x.length ≤ sizeLine
  zs : ∀ s ∈ ss, s.1.length ≤ sizeLine ∧ s.2.2.length ≤ sizeLine ∧ s.2.1.length < 1000
theorem areNames_len {xs : List Str} {m : Int} (h : areNames xs m = true) : xs.length ≤ m := by
  unfold areNames at h
  simp only [Bool.and_eq_true, decide_eq_true_eq] at h
  exact h.1.2
def F_init (ds : List D) (fs : List (Str × D)) : Prop := ∃ ws rs ss, ds = [.lst (ws.map .str), .lst (rs.map .str), .lst (ss.map stpD)] ∧ HOk ws rs ss ∧ fs = fldsH ws rs ss
theorem sc_init : FnScope ["self", "wares", "rooms", "steps", "at", "step"] ["self", "wares", "rooms", "steps"] (defScope s_House_init) := ⟨rfl, rfl, rfl, by decide +kernel, rfl, by decide +kernel, by decide +kernel⟩
theorem mk_init {x qual : Str} {params : Arguments} {body : List Stmt} {scope : Scope} {f C : Addr} {fd : FuncData} {N ps : List Str} {k : Nat} {F : List D → List (Str × D) → Prop} (Fd : FunD K x qual params body scope [] [] f fd) (S : FnScope N ps scope) (hl : ∀ ds fs, F ds fs → ds.length + 1 = ps.length)
    (hb : ∀ (cdv : Value) (A : Around) (outer : List Env) (s : Shared) (H : Hp) (y dx : Addr) (us : List V) (Q : VK) (E : XK) (G : Hp) (ds : List D) (fs : List (Str × D)), Room k (aD qual scope s f cdv A) → Ok W0 G H → OwnO K mg W0 G H y C dx [] → RpA K mg G us ds → F ds fs →
      (∀ G1 H1, Ch W0 (fun a => a = y) G H G1 H1 → OwnO K mg W0 G1 H1 y C dx fs → Q .non H1) → semB (bX P w K mg base N qual scope f cdv A outer s H E) body { nx := fun _ H' => Q .non H', rt := Q } (start N (.ref y :: us)) H) :
    FnOk P w K mg base CX0 (k + 1) f fd ps (SpI K mg C F) :=
  Fd.ok S (fun vs H Q E ⟨y, dx, us, G, ds, fs, e, _, _, r, hF, _⟩ => by rw [e, List.length_cons, r.length]; exact hl ds fs hF) fun cdv A outer s H vs Q E hr ⟨y, dx, us, G, ds, fs, e, ko, o, r, hF, q⟩ =>
    ⟨_, PSs.nox pss_sem, by subst e; exact hb cdv A outer s H y dx us Q E G ds fs hr ko o r hF q⟩
theorem fPut_len (f : Str) (d : D) : ∀ ds : List (Str × D), (fPut f d ds).length ≤ ds.length + 1
  | [] => Nat.le_refl _
  | (g, y) :: r => by
    unfold fPut
    split
    · simp
    · have := fPut_len f d r
      simp only [List.length_cons]
      omega
theorem c_House (t : T K mg) : CalI P w K mg base "House" (He.ga K "House") 3 ["self", "wares", "rooms", "steps"] F_init := by
  obtain ⟨fd, Fd⟩ := d_House_init t
  refine ⟨_, fd, mk_init Fd sc_init (fun ds fs ⟨_, _, _, e, _⟩ => by rw [e]; rfl) ?_, g_House t, mkr_House t, Fd.bindsN fun _ _ _ _ _ _ us hl => match us, hl with | [_, _, _, _], _ => rfl⟩
  intro cdv A outer s H y dx us Q E G ds fs hr ko o r hF q
  obtain ⟨ws, rs, ss, rfl, h, rfl⟩ := hF
  obtain ⟨v, u, x, rfl, rw, rr, rs'⟩ := RpA.three r
  have nd := sc_init.nd
  have lw := areNames_len h.w
  have lr := areNames_len h.r
  have s1 := h.s1
  have s2 := h.s2
  refine q_if ko (et_not (et_val1 (ev_call (c_are_names t) (hr.mono (by decide)) (ea_cons (ev_v 1 rw) (ea_cons (ev_globI (i_MOST_WARES t)) ea_nil)) ⟨_, ws, 5, rfl, rfl, by omega, h.zw, rfl⟩))) (fun e1 => by rw [h.w] at e1; cases e1) fun _ G1 H1 c1 => q_nil ?_
  refine q_if c1.ok (et_not (et_val1 (ev_call (c_are_names t) (hr.mono (by decide)) (ea_cons (ev_v 2 (rr.mono c1.gg)) (ea_cons (ev_globI (i_MOST_ROOMS t)) ea_nil)) ⟨_, rs, 4, rfl, rfl, by omega, h.zr, rfl⟩))) (fun e1 => by rw [h.r] at e1; cases e1) fun _ G2 H2 c2 => q_nil ?_
  have c12 := c1.trans c2
  refine q_if c2.ok (EvW.t (ew_or (et_not (et_val1 (ev_isSeq (n_isinstance t) (n_list t) (n_tuple t) (ev_v 3 (rs'.mono c12.gg)) rfl))) fun _ => ew_or1 (et_not (et_lele ev_int (ev_len (n_len t) (ev_v 3 (rs'.mono c12.gg))) (ev_globI (i_MOST_STEPS t)))))) (fun e1 => ?_) fun _ G3 H3 c3 => q_nil ?_
  · exfalso
    rw [List.length_map] at e1
    have a1 : decide ((1 : Int) ≤ ss.length) = true := by simp; omega
    have a2 : decide ((ss.length : Int) ≤ 8) = true := by simp; omega
    rw [a1, a2] at e1
    cases e1
  have c123 := c12.trans c3
  refine q_for N0 (fun L i σ G' H' => ∃ a b, σ = [some (.ref y), some v, some u, some x, a, b]) c3.ok (EvI.toP (ei_enum (n_enumerate t) (ev_v 3 (rs'.mono c123.gg)))) (fun L G4 H4 c4 e => ⟨none, none, rfl⟩) ?_ ?_
  · rintro L i d σ1 G4 H4 rfl hd c4 ⟨a, b, rfl⟩ v5 G5 H5 c5 r5
    rw [List.getElem?_map] at hd
    obtain ⟨⟨d0, j⟩, hj, rfl⟩ := Option.map_eq_some_iff.mp hd
    have hd0 : (ss.map stpD)[j]? = some d0 := by
      rw [List.getElem?_zipIdx] at hj
      obtain ⟨z, hz, e⟩ := Option.map_eq_some_iff.mp hj
      cases e
      simpa using hz
    rw [List.getElem?_map] at hd0
    obtain ⟨st, hst, rfl⟩ := Option.map_eq_some_iff.mp hd0
    have hm := List.mem_of_getElem? hst
    refine g_tup (is := [4, 5]) nd rfl c5.ok r5 (.cons rfl (Or.inl rfl) (.inr rfl) rfl (.cons rfl (Or.inl rfl) (.inr rfl) rfl .nil)) rfl fun ws' rws => ?_
    obtain ⟨w1, w2, rfl, ra, rb⟩ := rws.two
    have cc := c123.trans (c4.trans c5)
    refine q_if c5.ok (et_not (et_val1 (ev_call (c_is_house_step t) (hr.mono (by decide)) (ea_cons (ev_v 5 rb) (ea_cons (ev_len (n_len t) (ev_v 1 (rw.mono cc.gg))) (ea_cons (ev_v 2 (rr.mono cc.gg)) ea_nil))) ⟨st.1, st.2.1, st.2.2, ws.length, rs, _, by rw [List.length_map]; rfl, rfl, (h.zs _ hm).2.2, (h.zs _ hm).1, (h.zs _ hm).2.1, rfl⟩))) (fun e1 => by rw [h.st _ hm] at e1; cases e1) fun _ G6 H6 c6 => q_nil (q_nil ⟨G6, c6, _, _, rfl⟩)
  · rintro L σ1 G4 H4 rfl c4 ⟨a, b, rfl⟩
    have cc := c123.trans c4
    have o4 := o.ch0 cc
    refine q_fld (ib := 0) c4.ok o4 (by decide) (cls_House t) (no_House_ware_names t) (en_list (n_list t) (ev_v 1 (rw.mono cc.gg)) rfl).fz1 fun d G5 H5 c5 e o5 => ?_
    subst e
    have cc5 := cc.of0.trans c5
    refine q_fld (ib := 0) c5.ok o5 (Nat.lt_of_le_of_lt (fPut_len _ _ _) (by decide)) (cls_House t) (no_House_room_names t) (en_list (n_list t) (ev_v 2 (rr.mono cc5.gg)) rfl).fz1 fun d G6 H6 c6 e o6 => ?_
    subst e
    have cc6 := cc5.trans c6
    refine q_fld (ib := 0) c6.ok o6 (Nat.lt_of_le_of_lt (fPut_len _ _ _) (Nat.lt_of_le_of_lt (Nat.succ_le_succ (fPut_len _ _ _)) (by decide))) (cls_House t) (no_House_house_steps t) (en_list (n_list t) (ev_v 3 (rs'.mono cc6.gg)) rfl).fz1 fun d G7 H7 c7 e o7 => ?_
    subst e
    exact q_nil (q G7 H7 (cc6.trans c7) o7)
end Fx
set_option Elab.async false
set_option linter.all false
set_option maxRecDepth 100000
set_option maxHeartbeats 4000000
namespace Fx
open PySem L2 GX Hd
variable {P : Program} {w : World} {K : PySem.W.Frag} {mg : Str → Option Value} {base : Heap}
/-! ### len(house), need_house -/
def F_len (ds : List D) (d : D) : Prop := ∃ ws rs ss, ds = [houseD ws rs ss] ∧ d = .int (ss.length : Nat)
theorem sc_len : FnScope ["self"] ["self"] (defScope s_House_len) := ⟨rfl, rfl, rfl, by decide +kernel, rfl, by decide +kernel, by decide +kernel⟩
theorem m_len (t : T K mg) : CalM P w K mg base "House" "__len__" 1 ["self"] F_len := by
  obtain ⟨fd, Fd⟩ := d_House_len t
  refine mk_calM Fd (mk_fn Fd sc_len (fun ds d ⟨_, _, _, e, _⟩ => by rw [e]; rfl) ?_) (g_House t) (cls_House t) (me_House_len t) (fun _ _ _ _ _ _ us hl => match us, hl with | [_], _ => rfl)
  intro cdv A outer s H vs Q E G ds d hr ko r hF q
  obtain ⟨ws, rs, ss, rfl, rfl⟩ := hF
  obtain ⟨v, rfl, rt⟩ := r.one
  refine q_ret ko (ev_len (n_len t) (ev_fld (ev_v 0 rt) (g_House t) (cls_House t) (no_House_house_steps t) rfl)) fun v d G1 H1 c e rv => ?_
  subst e
  rw [List.length_map] at rv
  exact q v G1 H1 c rv
def F_need (ds : List D) (d : D) : Prop := ∃ ws rs ss, ds = [houseD ws rs ss] ∧ d = .non
theorem sc_need : FnScope ["house"] ["house"] (defScope s_need_house) := ⟨rfl, rfl, rfl, by decide +kernel, rfl, by decide +kernel, by decide +kernel⟩
theorem c_need_house (t : T K mg) : CalD P w K mg base "need_house" 1 ["house"] F_need := by
  obtain ⟨fd, Fd⟩ := d_need_house t
  refine mk_cal Fd (mk_fn Fd sc_need (fun ds d ⟨_, _, _, e, _⟩ => by rw [e]; rfl) ?_) (g_need_house t) (fun _ _ _ _ _ _ us hl => match us, hl with | [_], _ => rfl)
  intro cdv A outer s H vs Q E G ds d hr ko r hF q
  obtain ⟨ws, rs, ss, rfl, rfl⟩ := hF
  obtain ⟨v, rfl, rt⟩ := r.one
  exact q_if ko (et_not (et_val1 (ev_isIns (n_isinstance t) (g_House t) (isi_ok (isi_House t)) (ev_v 0 rt)))) (fun e1 => by cases e1) fun _ G1 H1 c1 => q_nil (q_nil (q .non G1 H1 c1 .non))
/-! ### reached -/
def stpAt (ss : List Stp) (a : Nat) : Stp := ss.getD a default
/-- one step looked at from here -/
def rStep (ss : List Stp) (here : Str) (fw : List Str × List Str) (a : Nat) : List Str × List Str :=
  if (stpAt ss a).1 = here ∧ (stpAt ss a).2.2 ∉ fw.1 then (fw.1 ++ [(stpAt ss a).2.2], fw.2 ++ [(stpAt ss a).2.2]) else fw
def dfs (ss : List Stp) (idx : List Nat) : Nat → List Str → List Str → List Str
  | 0, f, _ => f
  | n + 1, f, w => if w.isEmpty then f else dfs ss idx n (idx.foldl (rStep ss (w.getLastD "")) (f, w.dropLast)).1 (idx.foldl (rStep ss (w.getLastD "")) (f, w.dropLast)).2
def reachF (rs : List Str) (ss : List Stp) (idx : List Nat) (room : Str) : List Str := dfs ss idx (2 * rs.length) [room] [room]
theorem isStepB_q {p q : Str} {c : List Int} {m : Int} {rs : List Str} (h : isStepB p c q m rs = true) : p ∈ rs ∧ q ∈ rs := by
  unfold isStepB at h
  simp only [Bool.and_eq_true, decide_eq_true_eq] at h
  exact ⟨h.2.2.1, h.2.2.2.1⟩
theorem stpAt_mem {ss : List Stp} {a : Nat} (h : a < ss.length) : stpAt ss a ∈ ss := by
  unfold stpAt
  rw [List.getD_eq_getElem?_getD, List.getElem?_eq_getElem h]
  exact List.getElem_mem h
theorem stpAt_get {ss : List Stp} {a : Nat} (h : a < ss.length) : ss[a]? = some (stpAt ss a) := by
  unfold stpAt
  rw [List.getD_eq_getElem?_getD, List.getElem?_eq_getElem h]
  rfl
/-- what stays true while steps are looked at -/
structure RInv (rs : List Str) (m : Nat) (f w : List Str) : Prop where
  nd : f.Nodup
  sub : ∀ x ∈ f, x ∈ rs
  ws : ∀ x ∈ w, x ∈ rs
  le : 2 * rs.length + w.length ≤ m + 2 * f.length
theorem nodup_le {α : Type} [DecidableEq α] : ∀ (f rs : List α), f.Nodup → (∀ x ∈ f, x ∈ rs) → f.length ≤ rs.length
  | [], _, _, _ => Nat.zero_le _
  | a :: f, rs, h, s => by
    have h1 := List.nodup_cons.mp h
    have e := nodup_le f (rs.erase a) h1.2 fun x hx => (List.mem_erase_of_ne (fun z => h1.1 (by rw [← z]; exact hx))).mpr (s x (List.mem_cons_of_mem _ hx))
    have hm := s a List.mem_cons_self
    have := List.length_erase_of_mem hm
    have := List.length_pos_of_mem hm
    simp only [List.length_cons]
    omega
theorem RInv.step {rs : List Str} {m : Nat} {ss : List Stp} {here : Str} {fw : List Str × List Str} {a : Nat} (h : RInv rs m fw.1 fw.2) (hq : (stpAt ss a).2.2 ∈ rs) : RInv rs m (rStep ss here fw a).1 (rStep ss here fw a).2 := by
  unfold rStep
  split
  · rename_i c
    refine ⟨?_, fun x hx => ?_, fun x hx => ?_, ?_⟩
    · rw [List.nodup_append]
      exact ⟨h.nd, by simp, fun x hx y hy e => c.2 (by rw [← List.mem_singleton.mp hy, ← e]; exact hx)⟩
    · rcases List.mem_append.mp hx with z | z
      · exact h.sub x z
      · rw [List.mem_singleton.mp z]; exact hq
    · rcases List.mem_append.mp hx with z | z
      · exact h.ws x z
      · rw [List.mem_singleton.mp z]; exact hq
    · have := h.le
      simp only [List.length_append, List.length_singleton]
      omega
  · exact h
theorem RInv.fold {rs : List Str} {m : Nat} {ss : List Stp} {here : Str} : ∀ (l : List Nat) {fw : List Str × List Str}, RInv rs m fw.1 fw.2 → (∀ a ∈ l, (stpAt ss a).2.2 ∈ rs) → RInv rs m (l.foldl (rStep ss here) fw).1 (l.foldl (rStep ss here) fw).2
  | [], _, h, _ => h
  | a :: l, fw, h, hl => RInv.fold l (h.step (hl a List.mem_cons_self)) fun b hb => hl b (List.mem_cons_of_mem _ hb)
def F_reached (ds : List D) (d : D) : Prop := ∃ ws rs ss room idx, ds = [houseD ws rs ss, .str room, .lst (idx.map fun n : Nat => .int n)] ∧ HOk ws rs ss ∧ room ∈ rs ∧ (∀ a ∈ idx, a < ss.length) ∧ d = .lst ((reachF rs ss idx room).map .str)
theorem sc_reached : FnScope ["house", "room", "steps", "found", "waiting", "here", "at", "begin", "change", "other"] ["house", "room", "steps"] (defScope s_reached) := ⟨rfl, rfl, rfl, by decide +kernel, rfl, by decide +kernel, by decide +kernel⟩
theorem arePy_strs (xs : List Str) (h : ∀ x ∈ xs, PyData.strOk x = true) : D.arePy (xs.map .str) = true := by
  induction xs with
  | nil => rfl
  | cons x xs ih =>
    rw [List.map_cons, D.arePy, ih fun y hy => h y (List.mem_cons_of_mem _ hy)]
    show (PyData.strOk x && true) = true
    rw [h x List.mem_cons_self]; rfl
theorem dep_strs (xs : List Str) : dep 64 (.lst (xs.map .str)) := by
  have : ∀ xs : List Str, PyData.depthAll (D.pys (xs.map .str)) ≤ 1 := by
    intro xs
    induction xs with
    | nil => simp [D.pys, PyData.depthAll]
    | cons x xs ih => simp [D.pys, D.py, PyData.depthAll, PyData.depth]; omega
  unfold dep
  have := this xs
  simp only [D.py, PyData.depth]
  omega
end Fx
set_option Elab.async false
set_option linter.all false
set_option maxRecDepth 100000
set_option maxHeartbeats 4000000
namespace Fx
open PySem L2 GX Hd
variable {P : Program} {w : World} {K : PySem.W.Frag} {mg : Str → Option Value} {base : Heap}
theorem name_ok {x : Str} (h : isNameS x = true) : PyData.strOk x = true := by
  unfold isNameS at h
  simp only [Bool.and_eq_true, List.all_eq_true, decide_eq_true_eq] at h
  have hl : ∀ c ∈ lettersL.cps.toList, c < 0x110000 := by decide +kernel
  unfold PyData.strOk
  rw [← Array.all_toList, List.all_eq_true]
  exact fun c hc => decide_eq_true (hl c (h.2 c hc))
theorem areNames_mem {xs : List Str} {m : Int} (h : areNames xs m = true) : (∀ x ∈ xs, isNameS x = true) ∧ xs.Nodup := by
  unfold areNames at h
  simp only [Bool.and_eq_true, decide_eq_true_eq, List.all_eq_true] at h
  exact ⟨h.2.1, h.2.2⟩
theorem HOk.ok {ws rs : List Str} {ss : List Stp} (h : HOk ws rs ss) : ∀ x ∈ rs, PyData.strOk x = true := fun x hx => name_ok ((areNames_mem h.r).1 x hx)
theorem getLastD_split {w : List Str} (h : w ≠ []) : w = w.dropLast ++ [w.getLastD ""] := by
  rw [List.getLastD_eq_getLast?, List.getLast?_eq_some_getLast h]
  exact (List.dropLast_concat_getLast h).symm
theorem c_reached (t : T K mg) : CalD P w K mg base "reached" 1 ["house", "room", "steps"] F_reached := by
  obtain ⟨fd, Fd⟩ := d_reached t
  refine mk_cal Fd (mk_fn Fd sc_reached (fun ds d ⟨_, _, _, _, _, e, _⟩ => by rw [e]; rfl) ?_) (g_reached t) (fun _ _ _ _ _ _ us hl => match us, hl with | [_, _, _], _ => rfl)
  intro cdv A outer s H vs Q E G ds d hr ko r hF q
  obtain ⟨ws, rs, ss, room, idx, rfl, h, hroom, hidx, rfl⟩ := hF
  obtain ⟨vh, vr, vx, rfl, rh, rr, rx⟩ := RpA.three r
  have nd := sc_reached.nd
  have lr := areNames_len h.r
  have hu : (aD "reached" (defScope s_reached) s (He.ga K "reached") cdv A).units + 64 < cLine := by have := hr.un; omega
  have r2 := rr.str_v
  subst r2
  have htop : ∀ a ∈ idx, (stpAt ss a).1 ∈ rs ∧ (stpAt ss a).2.2 ∈ rs := fun a ha => isStepB_q (h.st _ (stpAt_mem (hidx a ha)))
  refine q_parNN 3 4 nd ko (en_lst (ea_cons (ev_v 1 (.str room)) ea_nil)) (en_lst (ea_cons (ev_v 1 (.str room)) ea_nil)) fun p1 p2 d1 d2 G1 H1 c1 e1 e2 o1 o2 hne hn1 hn2 => ?_
  subst e1; subst e2
  have hS : ∀ x, (x = p1 ∨ x = p2) → H x = none := fun x hx => by rcases hx with e | e <;> rw [e] <;> assumption
  refine q_while (fun x => x = p1 ∨ x = p2) (fun m σ G' H' => ∃ f w a b c d e, σ = [some vh, some (.str room), some vx, some (.ref p1), some (.ref p2), a, b, c, d, e] ∧ OwnL K mg W0 G' H' p1 (f.map .str) ∧ OwnL K mg W0 G' H' p2 (w.map .str) ∧ RInv rs m f w ∧ m ≤ 8 ∧ dfs ss idx m f w = reachF rs ss idx room) c1.ok
    ⟨2 * rs.length, [room], [room], none, none, none, none, none, rfl, o1, o2, ⟨by simp, fun x hx => by rw [List.mem_singleton.mp hx]; exact hroom, fun x hx => by rw [List.mem_singleton.mp hx]; exact hroom, by simp⟩, by omega, rfl⟩ ?_
  rintro m σ1 G2 H2 c2 ⟨f, w, a, b, c, d, e, rfl, o1, o2, inv, hm8, hd⟩
  refine ⟨(· = !w.isEmpty), (o2.et c2.ok fun G' k' ext rp => (et_neNil hu (ev_v 4 rp) (arePy_strs w fun x hx => h.ok x (inv.ws x hx)) (dep_strs w)).imp fun b e => by rw [e]; cases w <;> rfl), fun hb G3 H3 c3 => ?_, fun hb G3 H3 c3 => ?_⟩
  · have hw : w ≠ [] := fun z => by rw [z] at hb; cases hb
    have o1 := o1.ch0 c3
    have o2 := o2.ch0 c3
    obtain ⟨m', rfl⟩ : ∃ m', m = m' + 1 := by
      cases m with
      | zero =>
        exfalso
        have h1 := inv.le
        have h2 := nodup_le f rs inv.nd inv.sub
        have h3 := List.length_pos_iff.mpr hw
        omega
      | succ m' => exact ⟨m', rfl⟩
    have hd' : dfs ss idx m' (idx.foldl (rStep ss (w.getLastD "")) (f, w.dropLast)).1 (idx.foldl (rStep ss (w.getLastD "")) (f, w.dropLast)).2 = reachF rs ss idx room := by
      rw [← hd]
      conv => rhs; unfold dfs
      rw [if_neg (by simpa using hw)]
    have inv0 : RInv rs m' f w.dropLast := ⟨inv.nd, inv.sub, fun x hx => inv.ws x (List.dropLast_subset w hx), by have := inv.le; have h3 := List.length_pos_iff.mpr hw; simp only [List.length_dropLast]; omega⟩
    generalize hhere : w.getLastD "" = here at hd'
    have ew : w.map D.str = w.dropLast.map .str ++ [.str here] := by
      conv => lhs; rw [getLastD_split hw, hhere]
      rw [List.map_append]; rfl
    rw [ew] at o2
    refine q_asgE 5 nd (semE_pop (i := 4) c3.ok o2 rfl fun v H4 c4 rv o2' => ?_)
    have e5 := rv.str_v
    subst e5
    have o1 := o1.ch c4 hne
    have cc := c1.of0.trans (c2.trans (c3.of0.trans (c4.sub fun x hx => Or.inr hx)))
    refine q_for (fun x => x = p1 ∨ x = p2) (fun L i σ G' H' => ∃ c d e g, σ = [some vh, some (.str room), some vx, some (.ref p1), some (.ref p2), some (.str here), c, d, e, g] ∧ OwnL K mg W0 G' H' p1 (((idx.take i).foldl (rStep ss here) (f, w.dropLast)).1.map .str) ∧ OwnL K mg W0 G' H' p2 (((idx.take i).foldl (rStep ss here) (f, w.dropLast)).2.map .str)) c4.ok
      (EvI.toP (ei_list (ev_v 2 (rx.mono cc.gg)))) (fun L G5 H5 c5 e => ⟨b, c, d, _, rfl, o1.ch0 c5, o2'.ch0 c5⟩) ?_ ?_
    · rintro L i dd σ1 G5 H5 rfl hdd c5 ⟨x1, x2, x3, x4, rfl, o1, o2⟩ v6 G6 H6 c6 r6
      rw [List.getElem?_map] at hdd
      obtain ⟨at', hat, rfl⟩ := Option.map_eq_some_iff.mp hdd
      have hma := List.mem_of_getElem? hat
      have hlt := hidx at' hma
      have e6 := r6.int_v
      subst e6
      refine g_name 6 nd ?_
      have cc6 := cc.trans (c5.trans c6.of0)
      have o1 := o1.ch0 c6
      have o2 := o2.ch0 c6
      refine q_asgT nd [7, 8, 9] c6.ok (P := (· = stpD (stpAt ss at'))) (ev_ixL (ev_fld (ev_v 0 (rh.mono cc6.gg)) (g_House t) (cls_House t) (no_House_house_steps t) rfl) (ev_v 6 (.int at')) (atI_nat (by rw [List.getElem?_map, stpAt_get hlt]; rfl))) (.cons rfl (Or.inl rfl) (.inr rfl) rfl (.cons rfl (Or.inl rfl) (.inr rfl) rfl (.cons rfl (Or.inl rfl) (.inr rfl) rfl .nil))) (fun d e => ⟨_, e, rfl⟩) fun vs ds G7 H7 c7 e7 r7 => ?_
      obtain ⟨w1, w2, w3, rfl, ra, rb, rc⟩ : ∃ w1 w2 w3, vs = [w1, w2, w3] ∧ Rp K mg G7 w1 (.str (stpAt ss at').1) ∧ Rp K mg G7 w2 (.tup ((stpAt ss at').2.1.map .int)) ∧ Rp K mg G7 w3 (.str (stpAt ss at').2.2) := by
        cases e7
        exact RpA.three r7
      have o1 := o1.ch0 c7
      have o2 := o2.ch0 c7
      have hfold : (idx.take (i + 1)).foldl (rStep ss here) (f, w.dropLast) = rStep ss here ((idx.take i).foldl (rStep ss here) (f, w.dropLast)) at' := by
        rw [List.take_add_one, hat]
        show List.foldl _ _ (List.take i idx ++ [at']) = _
        rw [List.foldl_append]; rfl
      generalize hfw : (idx.take i).foldl (rStep ss here) (f, w.dropLast) = fw at o1 o2 hfold
      refine q_if (PB := (· = (decide ((stpAt ss at').1 = here) && !decide ((stpAt ss at').2.2 ∈ fw.1)))) c7.ok (o1.et c7.ok fun G' k' ext rp => EvW.t (ew_and (et_eqS (ev_v 7 (ra.mono ext)) (ev_v 5 (.str here))) fun _ => ew_and1 (et_niS (ev_v 9 (rc.mono ext)) (ev_v 3 rp)))) (fun hb G8 H8 c8 => ?_) (fun hb G8 H8 c8 => ?_)
      · have hb' : (stpAt ss at').1 = here ∧ (stpAt ss at').2.2 ∉ fw.1 := by
          have := hb.symm
          simpa using this
        have hst : rStep ss here fw at' = (fw.1 ++ [(stpAt ss at').2.2], fw.2 ++ [(stpAt ss at').2.2]) := by unfold rStep; rw [if_pos hb']
        have invF : RInv rs m' fw.1 fw.2 := by
          have := RInv.fold (ss := ss) (here := here) (idx.take i) (fw := (f, w.dropLast)) inv0 fun a ha => (htop a (List.mem_of_mem_take ha)).2
          rw [hfw] at this
          exact this
        have l1 := nodup_le _ _ invF.nd invF.sub
        have l2 := invF.le
        refine q_app (i := 3) c8.ok (o1.ch0 c8) rfl (ev_v 9 (rc.mono c8.gg)) (by rw [List.length_map]; omega) fun d G9 H9 c9 e o1' => ?_
        subst e
        refine q_app (i := 4) c9.ok ((o2.ch0 c8).ch c9 (fun z => hne z.symm)) rfl (ev_v 9 (rc.mono (c8.gg.trans c9.gg))) (by rw [List.length_map]; omega) fun d G10 H10 c10 e o2' => ?_
        subst e
        refine q_nil (q_nil ⟨G10, (c7.of0.trans (c8.of0.trans ((c9.sub fun x hx => Or.inl hx).trans (c10.sub fun x hx => Or.inr hx)))), _, _, _, _, rfl, ?_, ?_⟩)
        · rw [hfold, hst]
          simp only [List.map_append]
          exact o1'.ch c10 hne
        · rw [hfold, hst]
          simp only [List.map_append]
          exact o2'
      · have hb' : ¬ ((stpAt ss at').1 = here ∧ (stpAt ss at').2.2 ∉ fw.1) := by
          have := hb.symm
          simpa using this
        have hst : rStep ss here fw at' = fw := by unfold rStep; rw [if_neg hb']
        refine q_nil (q_nil ⟨G8, (c7.trans c8).of0, _, _, _, _, rfl, ?_, ?_⟩)
        · rw [hfold, hst]
          exact o1.ch0 c8
        · rw [hfold, hst]
          exact o2.ch0 c8
    · rintro L σ1 G5 H5 rfl c5 ⟨x1, x2, x3, x4, rfl, o1, o2⟩
      rw [List.length_map, List.take_length] at o1 o2
      refine q_nil ⟨m', G5, by omega, (c4.sub fun x hx => Or.inr hx).trans c5, _, _, _, _, _, _, _, rfl, o1, o2, RInv.fold idx (fw := (f, w.dropLast)) inv0 fun a ha => (htop a ha).2, by omega, hd'⟩
  · have hw : w = [] := by
      cases w with
      | nil => rfl
      | cons x w => cases hb
    subst hw
    have e : f = reachF rs ss idx room := by
      rw [← hd]
      cases m <;> rfl
    subst e
    refine q_retOwn (i := 3) (o1.ch0 c3) ((c1.of0.trans c2).trans c3.of0) hS hn1 rfl (fun v G4 c4 rv => q v G4 H3 c4 rv) ko
end Fx
set_option Elab.async false
set_option linter.all false
set_option maxRecDepth 100000
set_option maxHeartbeats 4000000
namespace Fx
open PySem L2 GX Hd
variable {P : Program} {w : World} {K : PySem.W.Frag} {mg : Str → Option Value} {base : Heap}
/-! ### dicts by keys -/
theorem dGet_put (l : List (Key × D)) (k k' : Key) (v : D) : dGet (dPut l k v) k' = if k = k' then some v else dGet l k' := by
  have find_map : ∀ (l : List (Key × D)), ((l.map fun q => if q.1 = k then (q.1, v) else q).find? fun q => decide (q.1 = k')).map (·.2) = if k = k' then (if (l.any fun q => decide (q.1 = k)) then some v else none) else (l.find? fun q => decide (q.1 = k')).map (·.2) := by
    intro l
    induction l with
    | nil => simp
    | cons q l ih =>
      obtain ⟨a, b⟩ := q
      rw [List.map_cons, List.find?_cons, List.find?_cons, List.any_cons]
      by_cases h1 : a = k
      · subst h1
        by_cases h2 : a = k'
        · subst h2; simp
        · simp [h2] at ih ⊢; exact ih
      · by_cases h2 : a = k'
        · subst h2
          have : ¬ k = a := fun z => h1 z.symm
          simp [h1, this]
        · simp only [if_neg h1, decide_eq_false h2, decide_eq_false h1, Bool.false_or]
          exact ih
  unfold dPut
  split
  · rename_i h
    unfold dGet
    rw [find_map l, if_pos h]
  · rename_i h
    unfold dGet
    rw [List.find?_append]
    by_cases h2 : k = k'
    · subst h2
      have hn : l.find? (fun q => decide (q.1 = k)) = none := by
        rw [List.find?_eq_none]
        intro x hx hk
        exact h (List.any_eq_true.mpr ⟨x, hx, hk⟩)
      rw [hn]; simp
    · rw [if_neg h2]
      cases l.find? (fun q => decide (q.1 = k')) <;> simp [h2]
theorem dGet_fold {α : Type} {kf : α → Key} {vf : α → D} {k0 : Key} {v0 : D} : ∀ (l : List α) (acc : List (Key × D)), (∀ x ∈ l, kf x = k0 → vf x = v0) → ((∃ x ∈ l, kf x = k0) ∨ dGet acc k0 = some v0) →
    dGet ((l.map fun x => (kf x, vf x)).foldl (fun acc q => dPut acc q.1 q.2) acc) k0 = some v0
  | [], acc, _, h => by
    rcases h with ⟨x, hx, _⟩ | h
    · cases hx
    · exact h
  | x :: l, acc, hv, h => by
    rw [List.map_cons, List.foldl_cons]
    refine dGet_fold l _ (fun y hy => hv y (List.mem_cons_of_mem _ hy)) ?_
    rw [dGet_put]
    by_cases e : kf x = k0
    · rw [if_pos e, hv x List.mem_cons_self e]; exact .inr rfl
    · rw [if_neg e]
      rcases h with ⟨y, hy, e2⟩ | h
      · rcases List.mem_cons.mp hy with z | z
        · subst z; exact absurd e2 e
        · exact .inl ⟨y, z, e2⟩
      · exact .inr h
theorem dGet_merge {α : Type} {kf : α → Key} {vf : α → D} {k0 : Key} {v0 : D} (l : List α) (hv : ∀ x ∈ l, kf x = k0 → vf x = v0) (h : ∃ x ∈ l, kf x = k0) : dGet (dMerge (l.map fun x => (kf x, vf x))) k0 = some v0 := dGet_fold l [] hv (.inl h)
/-! ### rings_by -/
abbrev RG := List Str × List Nat
def rgD (r : RG) : D := .tup [.tup (r.1.map .str), .tup (r.2.map fun n : Nat => .int n)]
def someF (rs : List Str) (wy : Str → List Str) (room : Str) : List Str := rs.filter fun one => decide (one ∈ wy room) && decide (room ∈ wy one)
def insF (ss : List Stp) (idx : List Nat) (some : List Str) : List Nat := idx.filter fun a => decide ((stpAt ss a).1 ∈ some) && decide ((stpAt ss a).2.2 ∈ some)
def rgStep (rs : List Str) (ss : List Stp) (idx : List Nat) (wy : Str → List Str) (st : List RG × List Str) (room : Str) : List RG × List Str :=
  if room ∈ st.2 then st else (if (insF ss idx (someF rs wy room)).isEmpty then st.1 else st.1 ++ [(someF rs wy room, insF ss idx (someF rs wy room))], st.2 ++ someF rs wy room)
def ringsF (rs : List Str) (ss : List Stp) (idx : List Nat) : List RG := (rs.foldl (rgStep rs ss idx (reachF rs ss idx)) ([], [])).1
def F_rings_by (ds : List D) (d : D) : Prop := ∃ ws rs ss idx, ds = [houseD ws rs ss, .lst (idx.map fun n : Nat => .int n)] ∧ HOk ws rs ss ∧ (∀ a ∈ idx, a < ss.length) ∧ idx.length ≤ 100 ∧ d = .lst ((ringsF rs ss idx).map rgD)
theorem sc_rings_by : FnScope ["house", "steps", "found", "done", "ways", "room", "some", "one", "ends", "at", "inside"] ["house", "steps"] (defScope s_rings_by) := ⟨rfl, rfl, rfl, by decide +kernel, rfl, by decide +kernel, by decide +kernel⟩
theorem RpA.names {G : Hp} {v : V} {xs : List Str} (h : Rp K mg G v (.lst (xs.map .str))) : True := trivial
theorem arePy_ints (xs : List Nat) : D.arePy (xs.map fun n : Nat => .int n) = true := by
  induction xs with
  | nil => rfl
  | cons x xs ih => rw [List.map_cons, D.arePy, ih]; rfl
theorem dep_intsT (xs : List Nat) : dep 64 (.tup (xs.map fun n : Nat => .int n)) := by
  have : ∀ xs : List Nat, PyData.depthAll (D.pys (xs.map fun n : Nat => .int n)) ≤ 1 := by
    intro xs
    induction xs with
    | nil => simp [D.pys, PyData.depthAll]
    | cons x xs ih => simp [D.pys, D.py, PyData.depthAll, PyData.depth]; omega
  unfold dep
  have := this xs
  simp only [D.py, PyData.depth]
  omega
theorem c_rings_by (t : T K mg) : CalD P w K mg base "rings_by" 2 ["house", "steps"] F_rings_by := by
  obtain ⟨fd, Fd⟩ := d_rings_by t
  refine mk_cal Fd (mk_fn Fd sc_rings_by (fun ds d ⟨_, _, _, _, e, _⟩ => by rw [e]; rfl) ?_) (g_rings_by t) (fun _ _ _ _ _ _ us hl => match us, hl with | [_, _], _ => rfl)
  intro cdv A outer s H vs Q E G ds d hr ko r hF q
  obtain ⟨ws, rs, ss, idx, rfl, h, hidx, hil, rfl⟩ := hF
  obtain ⟨vh, vx, rfl, rh, rx⟩ := r.two
  have nd := sc_rings_by.nd
  have lr := areNames_len h.r
  have hu : (aD "rings_by" (defScope s_rings_by) s (He.ga K "rings_by") cdv A).units + 64 < cLine := by have := hr.un; omega
  have hu1 : (aD "rings_by" (defScope s_rings_by) s (He.ga K "rings_by") cdv A).units + 1 < cLine := by omega
  refine q_parNN 2 3 nd ko (en_lst ea_nil) (en_lst ea_nil) fun p1 p2 d1 d2 G1 H1 c1 e1 e2 o1 o2 hne hn1 hn2 => ?_
  subst e1; subst e2
  have hS : ∀ x, (x = p1 ∨ x = p2) → H x = none := fun x hx => by rcases hx with e | e <;> rw [e] <;> assumption
  refine q_asg 4 nd c1.ok (ed_dc (kf := fun d => match d with | .str x => .inr x | _ => .inl 0) (vf := fun d => match d with | .str x => .lst ((reachF rs ss idx x).map .str) | _ => .non) [("room", 5)] nd (blkOk_by (N := ["house", "steps", "found", "done", "ways", "room", "some", "one", "ends", "at", "inside"]) (sc := defScope s_rings_by) (by decide +kernel))
    (ei_list (ev_fld (ev_v 0 (rh.mono c1.gg)) (g_House t) (cls_House t) (no_House_room_names t) rfl)) (by rw [List.length_map]; omega) (fun i d v G2 H2 hd c2 rv => dc1 5 nd c2.ok fun s H0 C cl fp => ?_)).fz1 fun v d G2 H2 c2 e rw => ?_
  · rw [List.getElem?_map] at hd
    obtain ⟨x, hx, rfl⟩ := Option.map_eq_some_iff.mp hd
    have hxm := List.mem_of_getElem? hx
    have cc := c1.trans c2
    exact ⟨ev_v 5 rv, ev_call (c_reached t) (hr.mono (by decide)) (ea_cons (ev_v 0 (rh.mono cc.gg)) (ea_cons (ev_v 5 rv) (ea_cons (ev_v 1 (rx.mono cc.gg)) ea_nil))) ⟨ws, rs, ss, x, idx, rfl, h, hxm, hidx, rfl⟩⟩
  subst e
  rw [filter_true, List.map_map] at rw
  have way : ∀ x ∈ rs, dGet (dMerge (rs.map fun x => (Sum.inr x, D.lst ((reachF rs ss idx x).map .str)))) (.inr x) = some (.lst ((reachF rs ss idx x).map .str)) := fun x hx => dGet_merge (kf := fun x => Sum.inr x) (vf := fun x => D.lst ((reachF rs ss idx x).map .str)) rs (fun y _ e => by cases e; rfl) ⟨x, hx, rfl⟩
  change Rp K mg G2 v (.dic (dMerge (rs.map fun x => (Sum.inr x, D.lst ((reachF rs ss idx x).map .str))))) at rw
  generalize hW : dMerge (rs.map fun x => ((Sum.inr x : Key), D.lst ((reachF rs ss idx x).map .str))) = WD at rw way
  have o1 := o1.ch0 c2
  have o2 := o2.ch0 c2
  have c12 := c1.trans c2
  refine q_for (fun x => x = p1 ∨ x = p2) (fun L i σ G' H' => ∃ a b c d e f, σ = [some vh, some vx, some (.ref p1), some (.ref p2), some v, a, b, c, d, e, f] ∧ OwnL K mg W0 G' H' p1 (((rs.take i).foldl (rgStep rs ss idx (reachF rs ss idx)) ([], [])).1.map rgD) ∧
      OwnL K mg W0 G' H' p2 (((rs.take i).foldl (rgStep rs ss idx (reachF rs ss idx)) ([], [])).2.map .str) ∧ ((rs.take i).foldl (rgStep rs ss idx (reachF rs ss idx)) ([], [])).1.length ≤ i ∧ ((rs.take i).foldl (rgStep rs ss idx (reachF rs ss idx)) ([], [])).2.length ≤ 4 * i) c2.ok
    (EvI.toP (ei_list (ev_fld (ev_v 0 (rh.mono c12.gg)) (g_House t) (cls_House t) (no_House_room_names t) rfl))) (fun L G3 H3 c3 e => ⟨none, none, none, none, none, none, rfl, o1.ch0 c3, o2.ch0 c3, Nat.le_refl _, Nat.le_refl _⟩) ?_ ?_
  · rintro L i dd σ1 G3 H3 rfl hdd c3 ⟨x1, x2, x3, x4, x5, x6, rfl, o1, o2, z1, z2⟩ v4 G4 H4 c4 r4
    rw [List.getElem?_map] at hdd
    obtain ⟨room, hroom, rfl⟩ := Option.map_eq_some_iff.mp hdd
    have hrm := List.mem_of_getElem? hroom
    have hi : i < rs.length := (List.getElem?_eq_some_iff.mp hroom).1
    have e4 := r4.str_v
    subst e4
    refine g_name 5 nd ?_
    have cc := c12.of0.trans (c3.trans c4.of0)
    have o1 := o1.ch0 c4
    have o2 := o2.ch0 c4
    have hfold : (rs.take (i + 1)).foldl (rgStep rs ss idx (reachF rs ss idx)) ([], []) = rgStep rs ss idx (reachF rs ss idx) ((rs.take i).foldl (rgStep rs ss idx (reachF rs ss idx)) ([], [])) room := by
      rw [List.take_add_one, hroom]
      show List.foldl _ _ (List.take i rs ++ [room]) = _
      rw [List.foldl_append]; rfl
    generalize hst : (rs.take i).foldl (rgStep rs ss idx (reachF rs ss idx)) ([], []) = st at o1 o2 hfold z1 z2
    refine q_if (PB := (· = !decide (room ∈ st.2))) c4.ok (o2.et c4.ok fun G' k' ext rp => et_niS (ev_v 5 (.str room)) (ev_v 3 rp)) (fun hb G5 H5 c5 => ?_) (fun hb G5 H5 c5 => ?_)
    · have hb' : room ∉ st.2 := by
        have := hb.symm
        simpa using this
      have hgS : rgStep rs ss idx (reachF rs ss idx) st room = (if (insF ss idx (someF rs (reachF rs ss idx) room)).isEmpty then st.1 else st.1 ++ [(someF rs (reachF rs ss idx) room, insF ss idx (someF rs (reachF rs ss idx) room))], st.2 ++ someF rs (reachF rs ss idx) room) := by
        unfold rgStep; rw [if_neg hb']
      rw [hgS] at hfold
      generalize hsm : someF rs (reachF rs ss idx) room = sm at hfold
      have hsl : sm.length ≤ rs.length := by rw [← hsm]; exact List.length_filter_le _ _
      have cc5 := cc.trans c5.of0
      refine q_asg 6 nd c5.ok (P := (· = .tup (sm.map .str))) ((ev_tuple (n_tuple t) ((en_lc (f := fun d => d) (keep := fun d => match d with | .str y => decide (y ∈ reachF rs ss idx room) && decide (room ∈ reachF rs ss idx y) | _ => false) [("one", 7)] nd (blkOk_by (N := ["house", "steps", "found", "done", "ways", "room", "some", "one", "ends", "at", "inside"]) (sc := defScope s_rings_by) (by decide +kernel))
        (ei_list (ev_fld (ev_v 0 (rh.mono cc5.gg)) (g_House t) (cls_House t) (no_House_room_names t) rfl)) (by rw [List.length_map]; omega) (fun j d v7 G6 H6 hd c6 r7 => ?_)).fz1)).imp fun d e => ?_) fun v6 d6 G6 H6 c6 e6 r6 => ?_
      · rw [List.getElem?_map] at hd
        obtain ⟨y, hy, rfl⟩ := Option.map_eq_some_iff.mp hd
        have hym := List.mem_of_getElem? hy
        have e7 := r7.str_v
        subst e7
        have rw6 := rw.mono (c3.trans (c4.of0.trans (c5.of0.trans c6.of0))).gg
        exact lc1 7 nd (fun s H0 C cl fp => ets_one (EvW.t (ew_and (et_inS (ev_v 7 (.str y)) (ev_dgetS hu1 (ev_v 4 rw6) (ev_v 5 (.str room)) (way room hrm))) fun _ => ew_and1 (et_inS (ev_v 5 (.str room)) (ev_dgetS hu1 (ev_v 4 rw6) (ev_v 7 (.str y)) (way y hym)))))) (fun s H0 C cl fp _ => ev_v 7 (.str y))
      · rw [e, ← hsm, List.map_id', List.filter_map]
        rfl
      subst e6
      have cc6 := cc5.trans c6.of0
      have o1 := (o1.ch0 c5).ch0 c6
      have o2 := (o2.ch0 c5).ch0 c6
      refine q_extD (i := 3) c6.ok o2 rfl (ev_v 6 r6) rfl (by rw [List.length_map, List.length_map]; omega) fun G7 H7 c7 o2 => ?_
      have o1 := o1.ch c7 hne
      have cc7 := cc6.trans (c7.sub fun x hx => Or.inr hx)
      have r67 := r6.mono c7.gg
      refine q_asg 8 nd c7.ok (ed_dc (kf := fun d => match d with | .int j => .inl j | _ => .inl 0) (vf := fun d => match d with | .int j => .tup [.str (stpAt ss j.toNat).1, .str (stpAt ss j.toNat).2.2] | _ => .non) [("at", 9)] nd (blkOk_by (N := ["house", "steps", "found", "done", "ways", "room", "some", "one", "ends", "at", "inside"]) (sc := defScope s_rings_by) (by decide +kernel))
        (ei_list (ev_v 1 (rx.mono cc7.gg))) (by rw [List.length_map]; omega) (fun j d v9 G8 H8 hd c8 r9 => dc1 9 nd c8.ok fun s H0 C cl fp => ?_)).fz1 fun v8 d8 G8 H8 c8 e8 r8 => ?_
      · rw [List.getElem?_map] at hd
        obtain ⟨a, ha, rfl⟩ := Option.map_eq_some_iff.mp hd
        have hlt := hidx a (List.mem_of_getElem? ha)
        have e9 := r9.int_v
        subst e9
        have gh := rh.mono (cc7.trans c8.of0).gg
        exact ⟨ev_v 9 (.int a), ev_tup (ea_cons (ev_ixT (ds := [.str (stpAt ss a).1, .tup ((stpAt ss a).2.1.map .int), .str (stpAt ss a).2.2]) (ev_ixL (ev_fld (ev_v 0 gh) (g_House t) (cls_House t) (no_House_house_steps t) rfl) (ev_v 9 (.int a)) (atI_nat (by rw [List.getElem?_map, stpAt_get hlt]; rfl))) ev_int) (ea_cons (ev_ixT (ds := [.str (stpAt ss a).1, .tup ((stpAt ss a).2.1.map .int), .str (stpAt ss a).2.2]) (ev_ixL (ev_fld (ev_v 0 gh) (g_House t) (cls_House t) (no_House_house_steps t) rfl) (ev_v 9 (.int a)) (atI_nat (by rw [List.getElem?_map, stpAt_get hlt]; rfl))) ev_int) ea_nil))⟩
      subst e8
      rw [filter_true, List.map_map] at r8
      have endW : ∀ a ∈ idx, dGet (dMerge (idx.map fun a : Nat => ((Sum.inl (a : Int) : Key), D.tup [.str (stpAt ss a).1, .str (stpAt ss a).2.2]))) (.inl (a : Int)) = some (.tup [.str (stpAt ss a).1, .str (stpAt ss a).2.2]) := fun a ha =>
        dGet_merge (kf := fun a : Nat => Sum.inl (a : Int)) (vf := fun a => D.tup [.str (stpAt ss a).1, .str (stpAt ss a).2.2]) idx (fun y _ e => by
          have e1 : (y : Int) = a := Sum.inl.inj e
          have e2 : y = a := by omega
          rw [e2]) ⟨a, ha, rfl⟩
      change Rp K mg G8 v8 (.dic (dMerge (idx.map fun a : Nat => ((Sum.inl (a : Int) : Key), D.tup [.str (stpAt ss a).1, .str (stpAt ss a).2.2])))) at r8
      generalize hE : dMerge (idx.map fun a : Nat => ((Sum.inl (a : Int) : Key), D.tup [.str (stpAt ss a).1, .str (stpAt ss a).2.2])) = ED at r8 endW
      have cc8 := cc7.trans c8.of0
      have r68 := r67.mono c8.gg
      generalize hin : insF ss idx sm = ins at hfold
      refine q_asg 10 nd c8.ok (P := (· = .tup (ins.map fun n : Nat => .int n))) ((ev_tuple (n_tuple t) ((en_lc (f := fun d => d) (keep := fun d => match d with | .int y => decide ((stpAt ss y.toNat).1 ∈ sm) && decide ((stpAt ss y.toNat).2.2 ∈ sm) | _ => false) [("at", 9)] nd (blkOk_by (N := ["house", "steps", "found", "done", "ways", "room", "some", "one", "ends", "at", "inside"]) (sc := defScope s_rings_by) (by decide +kernel))
        (ei_list (ev_v 1 (rx.mono cc8.gg))) (by rw [List.length_map]; omega) (fun j d v9 G9 H9 hd c9 r9 => ?_)).fz1)).imp fun d e => ?_) fun v10 d10 G9 H9 c9 e10 r10 => ?_
      · rw [List.getElem?_map] at hd
        obtain ⟨a, ha, rfl⟩ := Option.map_eq_some_iff.mp hd
        have ham := List.mem_of_getElem? ha
        have e9 := r9.int_v
        subst e9
        have r89 := r8.mono c9.gg
        have r69 := r68.mono c9.gg
        exact lc1 9 nd (fun s H0 C cl fp => ets_one (EvW.t (ew_and (et_inS (ev_ixT (ds := [.str (stpAt ss a).1, .str (stpAt ss a).2.2]) (ev_dgetI hu1 (ev_v 8 r89) (ev_v 9 (.int a)) (endW a ham)) ev_int) (ev_v 6 r69)) fun _ =>
          ew_and1 (et_inS (ev_ixT (ds := [.str (stpAt ss a).1, .str (stpAt ss a).2.2]) (ev_dgetI hu1 (ev_v 8 r89) (ev_v 9 (.int a)) (endW a ham)) ev_int) (ev_v 6 r69))))) (fun s H0 C cl fp _ => ev_v 9 (.int a))
      · rw [e, ← hin, List.map_id', List.filter_map]
        rfl
      subst e10
      have cc9 := cc8.trans c9.of0
      have r69 := r68.mono c9.gg
      have o1 := (o1.ch0 c8).ch0 c9
      have o2 := (o2.ch0 c8).ch0 c9
      have cT := c5.of0.trans (c6.of0.trans ((c7.sub (T := fun x => x = p1 ∨ x = p2) fun x hx => Or.inr hx).trans (c8.of0.trans c9.of0)))
      refine q_if c9.ok (et_neNilT hu (ev_v 10 r10) (arePy_ints ins) (dep_intsT ins)) (fun hb2 G10 H10 c10 => ?_) (fun hb2 G10 H10 c10 => ?_)
      · have hne2 : ins.isEmpty = false := by
          have z : true = !(ins.map fun n : Nat => D.int n).isEmpty := hb2
          rw [List.isEmpty_map] at z
          cases e : ins.isEmpty with
          | false => rfl
          | true => rw [e] at z; cases z
        rw [hne2] at hfold
        refine q_app (i := 2) c10.ok (o1.ch0 c10) rfl (ev_tup (ea_cons (ev_v 6 (r69.mono c10.gg)) (ea_cons (ev_v 10 (r10.mono c10.gg)) ea_nil))) (by rw [List.length_map]; omega) fun d G11 H11 c11 e o1 => ?_
        subst e
        refine q_nil (q_nil (q_nil ⟨G11, cT.trans (c10.of0.trans (c11.sub fun x hx => Or.inl hx)), _, _, _, _, _, _, rfl, ?_, ?_, ?_, ?_⟩))
        · rw [hfold]
          show OwnL K mg W0 G11 H11 p1 (List.map rgD (st.1 ++ [(sm, ins)]))
          rw [List.map_append]
          exact o1
        · rw [hfold]
          show OwnL K mg W0 G11 H11 p2 (List.map D.str (st.2 ++ sm))
          rw [List.map_append]
          exact (o2.ch0 c10).ch c11 fun z => hne z.symm
        · rw [hfold]
          show (st.1 ++ [(sm, ins)]).length ≤ _
          rw [List.length_append, List.length_singleton]; omega
        · rw [hfold]
          show (st.2 ++ sm).length ≤ _
          rw [List.length_append]; omega
      · have hne2 : ins.isEmpty = true := by
          have z : false = !(ins.map fun n : Nat => D.int n).isEmpty := hb2
          rw [List.isEmpty_map] at z
          cases e : ins.isEmpty with
          | true => rfl
          | false => rw [e] at z; cases z
        rw [hne2] at hfold
        refine q_nil (q_nil (q_nil ⟨G10, cT.trans c10.of0, _, _, _, _, _, _, rfl, ?_, ?_, ?_, ?_⟩))
        · rw [hfold]
          exact o1.ch0 c10
        · rw [hfold]
          show OwnL K mg W0 G10 H10 p2 (List.map D.str (st.2 ++ sm))
          rw [List.map_append]
          exact o2.ch0 c10
        · rw [hfold]
          show st.1.length ≤ _
          omega
        · rw [hfold]
          show (st.2 ++ sm).length ≤ _
          rw [List.length_append]; omega
    · have hb' : room ∈ st.2 := by
        have := hb.symm
        simpa using this
      have hgS : rgStep rs ss idx (reachF rs ss idx) st room = st := by unfold rgStep; rw [if_pos hb']
      rw [hgS] at hfold
      refine q_nil (q_nil ⟨G5, c5.of0, _, _, _, _, _, _, rfl, ?_, ?_, ?_, ?_⟩)
      · rw [hfold]; exact o1.ch0 c5
      · rw [hfold]; exact o2.ch0 c5
      · rw [hfold]; omega
      · rw [hfold]; omega
  · rintro L σ1 G3 H3 rfl c3 ⟨x1, x2, x3, x4, x5, x6, rfl, o1, o2, z1, z2⟩
    rw [List.length_map, List.take_length] at o1
    exact q_retOwn (i := 2) o1 (c12.of0.trans c3) hS hn1 rfl (fun v G4 c4 rv => q v G4 H3 c4 rv) ko
/-! ### rings -/
def F_rings (ds : List D) (d : D) : Prop := ∃ ws rs ss, ds = [houseD ws rs ss] ∧ HOk ws rs ss ∧ d = .lst ((ringsF rs ss (List.range ss.length)).map rgD)
theorem sc_rings : FnScope ["house"] ["house"] (defScope s_rings) := ⟨rfl, rfl, rfl, by decide +kernel, rfl, by decide +kernel, by decide +kernel⟩
theorem f_rings (t : T K mg) : ∃ fd, FunD K "rings" "rings" (defArgs s_rings) (defBody s_rings) (defScope s_rings) [] [] (He.ga K "rings") fd ∧ FnOk P w K mg base CX0 3 (He.ga K "rings") fd ["house"] (SpD K mg F_rings) := by
  obtain ⟨fd, Fd⟩ := d_rings t
  refine ⟨fd, Fd, mk_fn Fd sc_rings (fun ds d ⟨_, _, _, e, _⟩ => by rw [e]; rfl) ?_⟩
  intro cdv A outer s H vs Q E G ds d hr ko r hF q
  obtain ⟨ws, rs, ss, rfl, h, rfl⟩ := hF
  obtain ⟨v, rfl, rt⟩ := r.one
  have s2 := h.s2
  refine q_drop ko (ev_call (c_need_house t) (hr.mono (by decide)) (ea_cons (ev_v 0 rt) ea_nil) ⟨ws, rs, ss, rfl, rfl⟩) fun d G1 H1 c1 _ => ?_
  refine q_ret c1.ok (ev_call (c_rings_by t) (hr.mono (by decide)) (ea_cons (ev_v 0 (rt.mono c1.gg)) (ea_cons (en_listR (n := ss.length) (n_list t) (n_range t) (ev_lenI (m_len t) (hr.mono (by decide)) (n_len t) (ev_v 0 (rt.mono c1.gg)) ⟨ws, rs, ss, rfl, rfl⟩ (by omega) (by omega)) (by omega)).fz1 ea_nil)) ⟨ws, rs, ss, List.range ss.length, rfl, h, fun a ha => List.mem_range.mp ha, by rw [List.length_range]; omega, rfl⟩) fun v d G2 H2 c2 e rv => ?_
  subst e
  exact q v G2 H2 (c1.trans c2) rv
theorem c_rings (t : T K mg) : CalD P w K mg base "rings" 3 ["house"] F_rings := by
  obtain ⟨fd, Fd, Fn⟩ := f_rings (P := P) (w := w) (base := base) t
  exact mk_cal Fd Fn (g_rings t) (fun _ _ _ _ _ _ us hl => match us, hl with | [_], _ => rfl)
theorem k_rings (t : T K mg) : CalK P w K mg base "rings" 3 ["house"] F_rings := by
  obtain ⟨fd, Fd, Fn⟩ := f_rings (P := P) (w := w) (base := base) t
  exact mk_calK Fd Fn (g_rings t) (fun _ _ _ _ _ _ us hl => match us, hl with | [_], _ => rfl)
end Fx
set_option Elab.async false
set_option linter.all false
set_option maxRecDepth 100000
set_option maxHeartbeats 4000000
namespace Fx
open PySem L2 GX Hd
variable {P : Program} {w : World} {K : PySem.W.Frag} {mg : Str → Option Value} {base : Heap}
abbrev bigN : Nat := 1000000000
/-! ### _law_begun -/
def spBegun (K : PySem.W.Frag) (mg : Str → Option Value) : Sp := fun vs H Q _ => ∃ (v : V) (G : Hp) (ns : List Int), vs = [v] ∧ Ok W0 G H ∧ Rp K mg G v (.lst (ns.map .int)) ∧ ns.length ≤ 63 ∧ ∀ s g G1 H1, Ch W0 N0 G H G1 H1 → StS K mg s g 0 G1 H1 → H s = none → H g = none → Q (.ref s) H1
theorem sc_begun : FnScope ["script", "great", "cell"] ["script"] (defScope s_law_begun) := ⟨rfl, rfl, rfl, by decide +kernel, rfl, by decide +kernel, by decide +kernel⟩
theorem c_begun (t : T K mg) : Cal P w K mg base CX0 "_law_begun" 1 ["script"] (spBegun K mg) := by
  obtain ⟨fd, Fd⟩ := d_law_begun t
  refine mk_cal Fd (mk_fnR Fd sc_begun (fun vs H Q E ⟨_, _, _, e, _⟩ => by rw [e]; rfl) ?_) (g_law_begun t) (fun _ _ _ _ _ _ us hl => match us, hl with | [_], _ => rfl)
  intro cdv A outer s H vs Q E hr h
  obtain ⟨v, G, ns, rfl, ko, rv, hl, q⟩ := h
  have nd := sc_begun.nd
  have hc : CPow 10 18 := ⟨by decide, by decide, by decide⟩
  refine q_asgLc (keep := fun d => match d with | .int i => decide (10 ^ (18 : Int).toNat ≤ (if i < 0 then -i else i)) | _ => false) (f := fun d => match d with | .int i => .int ((if i < 0 then -i else i) - 10 ^ (18 : Int).toNat) | _ => .non) 1 [("cell", 2)] nd ko (blkOk_by (N := ["script", "great", "cell"]) (sc := defScope s_law_begun) (by decide +kernel)) (ei_list (ev_v 0 rv)) (by rw [List.length_map]; omega)
    (fun i d v2 G1 H1 hd c1 r1 => ?_) (fun g G1 H1 c1 hg o1 => ?_) (by rfl)
  · rw [List.getElem?_map] at hd
    obtain ⟨i, _, rfl⟩ := Option.map_eq_some_iff.mp hd
    have e := r1.int_v
    subst e
    exact lc1 2 nd (fun s H0 C cl fp => ets_one (et_ge (ev_abs (n_abs t) (ev_v 2 (.int i))) (ev_pow ev_int ev_int hc))) (fun s H0 C cl fp _ => ev_sub (ev_abs (n_abs t) (ev_v 2 (.int i))) (ev_pow ev_int ev_int hc))
  · have eg : (((ns.map D.int).filter fun d => match d with | .int i => decide (10 ^ (18 : Int).toNat ≤ (if i < 0 then -i else i)) | _ => false).map fun d => match d with | .int i => .int ((if i < 0 then -i else i) - 10 ^ (18 : Int).toNat) | _ => .non) = ((ns.filter fun i => decide (10 ^ (18 : Int).toNat ≤ (if i < 0 then -i else i))).map fun i => (if i < 0 then -i else i) - 10 ^ (18 : Int).toNat).map D.int := by
      rw [List.filter_map, List.map_map, List.map_map]
      rfl
    rw [eg] at o1
    generalize hgr : ((ns.filter fun i => decide (10 ^ (18 : Int).toNat ≤ (if i < 0 then -i else i))).map fun i => (if i < 0 then -i else i) - 10 ^ (18 : Int).toNat) = gr at o1
    have g0 : ∀ x ∈ gr, 0 ≤ x := fun x hx => by
      rw [← hgr] at hx
      obtain ⟨i, hi, rfl⟩ := List.mem_map.mp hx
      have := of_decide_eq_true (List.mem_filter.mp hi).2
      exact Int.sub_nonneg_of_le this
    have gl : gr.length ≤ 63 := by
      rw [← hgr, List.length_map]
      exact Nat.le_trans (List.length_filter_le _ _) hl
    refine q_retE (semE_of (pe_disp (pps_cons pe_sem pe_sem (pps_cons pe_sem pe_sem (pps_cons pe_sem pe_sem (pps_cons pe_sem pe_sem pps_nil)))) rfl rfl (by simp) (by decide)) fun p hp => ?_)
    have cp : Ch W0 N0 G1 H1 G1 (upd H1 p (.dK [])) := Ch.own c1.ok hp
    have o1 := o1.ch0 cp
    have gp : G1 p = none := c1.ok.gnone hp
    refine semE_of pe_str (semE_v 1 rfl (semE_of pe_str ?_))
    refine Ev.s (en_lc (keep := fun _ => true) (f := fun d => match d with | .int i => .int (if i < 0 then -i else i) | _ => .non) [("cell", 2)] nd (blkOk_by (N := ["script", "great", "cell"]) (sc := defScope s_law_begun) (by decide +kernel)) (ei_list (ev_v 0 (rv.mono c1.gg))) (by rw [List.length_map]; omega)
      (fun i d v2 G2 H2 hd c2 r2 => ?_)).fz1 cp.ok fun v2 d2 G2 H2 c2 e2 r2 => ?_
    · rw [List.getElem?_map] at hd
      obtain ⟨i, _, rfl⟩ := Option.map_eq_some_iff.mp hd
      have e := r2.int_v
      subst e
      exact lc1' 2 nd (fun s H0 C cl fp => ev_abs (n_abs t) (ev_v 2 (.int i))) c2.ok
    · subst e2
      have ec : (((ns.map D.int).filter fun _ => true).map fun d => match d with | .int i => .int (if i < 0 then -i else i) | _ => .non) = (ns.map fun i => if i < 0 then -i else i).map D.int := by
        rw [filter_true, List.map_map, List.map_map]
        rfl
      rw [ec] at r2
      refine semE_of pe_str (semE_of pe_int (semE_of pe_str (semE_of pe_int ?_)))
      have hp2 : H2 p = some (.dK []) := c2.hh p _ (fun z => z) (fun z => z) upd_same
      have gp2 : G2 p = none := c2.fr p (by rw [upd_same]; exact fun z => nomatch z) gp
      refine ⟨hp2, [(.inr "great", .ref g), (.inr "cells", v2), (.inr "rest", .int 0), (.inr "turn", .int 0)], rfl, (show 4 ≤ 15 by decide), ?_⟩
      have o2 := o1.ch0 c2
      have cw : Ch W0 (fun a => a = p) G2 H2 G2 (upd H2 p (.dK (mergeK [] [(.inr "great", .ref g), (.inr "cells", v2), (.inr "rest", .int 0), (.inr "turn", .int 0)]))) := Ch.write c2.ok gp2 (fun z => z) rfl
      have call : Ch W0 N0 G H G2 (upd H2 p (.dK (mergeK [] [(.inr "great", .ref g), (.inr "cells", v2), (.inr "rest", .int 0), (.inr "turn", .int 0)]))) := (c1.trans (cp.trans c2)).loc0 cw fun x e => by rw [e]; exact c1.new_of hp
      have hne : g ≠ p := fun z => by
        have := o1.tr
        obtain ⟨vs, h1, _⟩ := o1.ex
        rw [z, upd_same] at h1; cases h1
      have o3 := o2.ch cw hne
      obtain ⟨vs, h1, h2⟩ := o3.ex
      refine q p g _ _ call ⟨gp2, o3.g, hne, v2, 0, 0, gr, ns.map (fun i => if i < 0 then -i else i), ?_, by rw [h1, h2.ints_v], r2, Int.le_refl 0, Int.le_refl 0, by omega, g0, by omega, fun x hx => ?_, by rw [List.length_map]; omega⟩ (c1.new_of hp) hg
      · rw [upd_same]
        rfl
      · obtain ⟨i, _, rfl⟩ := List.mem_map.mp hx
        split <;> omega
end Fx
set_option Elab.async false
set_option linter.all false
set_option maxRecDepth 100000
set_option maxHeartbeats 4000000
namespace Fx
open PySem L2 GX Hd
variable {P : Program} {w : World} {K : PySem.W.Frag} {mg : Str → Option Value} {base : Heap}
/-! ### _law_mixed -/
def spMixed (K : PySem.W.Frag) (mg : Str → Option Value) : Sp := fun vs H Q _ => ∃ (s g : Addr) (n : Nat) (G : Hp), vs = [.ref s] ∧ Ok W0 G H ∧ StS K mg s g n G H ∧ n < bigN ∧ ∀ i G1 H1, Ch W0 (fun a => a = s) G H G1 H1 → StS K mg s g (n + 1) G1 H1 → (0 : Int) ≤ i → Q (.int i) H1
theorem sc_mixed : FnScope ["state", "turn", "found", "prime", "blend", "cell"] ["state"] (defScope s_law_mixed) := ⟨rfl, rfl, rfl, by decide +kernel, rfl, by decide +kernel, by decide +kernel⟩
theorem put_turn (g : Addr) (c : V) (r t u : Int) : putK [((.inr "great" : Key), V.ref g), (.inr "cells", c), (.inr "rest", .int r), (.inr "turn", .int t)] (.inr "turn") (.int u) = [(.inr "great", .ref g), (.inr "cells", c), (.inr "rest", .int r), (.inr "turn", .int u)] := rfl
theorem put_rest (g : Addr) (c : V) (r t u : Int) : putK [((.inr "great" : Key), V.ref g), (.inr "cells", c), (.inr "rest", .int r), (.inr "turn", .int t)] (.inr "rest") (.int u) = [(.inr "great", .ref g), (.inr "cells", c), (.inr "rest", .int u), (.inr "turn", .int t)] := rfl
def primesL : List Int := [2147483549, 2147483543, 2147483497, 2147483489]
theorem primes_ok : ∀ p ∈ primesL, 0 < p ∧ p < 2 ^ 31 := by decide
theorem c_mixed (t : T K mg) : Cal P w K mg base CX0 "_law_mixed" 1 ["state"] (spMixed K mg) := by
  obtain ⟨fd, Fd⟩ := d_law_mixed t
  refine mk_cal Fd (mk_fnR Fd sc_mixed (fun vs H Q E ⟨_, _, _, _, e, _⟩ => by rw [e]; rfl) ?_) (g_law_mixed t) (fun _ _ _ _ _ _ us hl => match us, hl with | [_], _ => rfl)
  intro cdv A outer s H vs Q E hr h
  obtain ⟨s, g, n, G, rfl, ko, st, hn, q⟩ := h
  have nd := sc_mixed.nd
  have hu := hu_of hr
  obtain ⟨c, r, u, gr, ce, e1, e2, e3, r0, u0, un, g0, gl, c0, cl⟩ := st.ex
  have hn' : n < 1000000000 := hn
  refine q_par 1 2 nd ko (ev_add (ev_dk 0 hu (fun z => z) e1 rfl (.int u)) ev_int) ev_int fun v1 v2 d1 d2 G1 H1 c1 p1 p2 r1 r2 => ?_
  subst p1; subst p2
  have e4 := r1.int_v
  have e5 := r2.int_v
  subst e4; subst e5
  have e1' := c1.hh s _ (fun z => z) (fun z => z) e1
  have gs' := c1.fr s (by rw [e1]; exact fun z => nomatch z) st.gs
  refine q_dputR (ib := 0) (l := s) (kvs := [(.inr "great", .ref g), (.inr "cells", c), (.inr "rest", .int r), (.inr "turn", .int u)]) hu (show 4 < 10000 by decide) (semE_v 1 rfl ⟨e1', ?_⟩)
  rw [put_turn]
  have cw : Ch W0 (fun a => a = s) G1 H1 G1 (upd H1 s (.dK [(.inr "great", .ref g), (.inr "cells", c), (.inr "rest", .int r), (.inr "turn", .int (u + 1))])) := Ch.write c1.ok gs' (fun z => z) rfl
  have cc := c1.of0.trans cw
  generalize hH2 : upd H1 s (.dK [(.inr "great", .ref g), (.inr "cells", c), (.inr "rest", .int r), (.inr "turn", .int (u + 1))]) = H2 at cw cc
  have e6 : H2 s = some (.dK [(.inr "great", .ref g), (.inr "cells", c), (.inr "rest", .int r), (.inr "turn", .int (u + 1))]) := by rw [← hH2]; exact upd_same
  have st2 : StS K mg s g (n + 1) G1 H2 := ⟨gs', c1.fr g (by rw [e2]; exact fun z => nomatch z) st.gg, st.ne, c, r, u + 1, gr, ce, e6, cw.hh g _ (fun z => z) st.ne (c1.hh g _ (fun z => z) (fun z => z) e2), e3.mono c1.gg, r0, by omega, by push_cast; omega, g0, gl, c0, cl⟩
  refine q_for N0 (fun L i σ G' H' => ∃ (f : Int) (a b d : Option V), σ = [some (.ref s), some (.int (u + 1)), some (.int f), a, b, d] ∧ 0 ≤ f) cw.ok (EvI.toP (ei_list (en_lst (ds := primesL.map .int) (ea_cons ev_int (ea_cons ev_int (ea_cons ev_int (ea_cons ev_int ea_nil)))) (show 4 ≤ 10000 by decide)).fz1)) (fun L G3 H3 c3 e => ⟨0, none, none, none, rfl, Int.le_refl 0⟩) ?_ ?_
  · rintro L i dd σ1 G3 H3 rfl hdd c3 ⟨f, a, b, d, rfl, f0⟩ v3 G4 H4 c4 r4
    rw [List.getElem?_map] at hdd
    obtain ⟨p, hp, rfl⟩ := Option.map_eq_some_iff.mp hdd
    have hp2 := primes_ok p (List.mem_of_getElem? hp)
    have e7 := r4.int_v
    subst e7
    refine g_name 3 nd ?_
    have c34 := c3.trans c4
    refine q_asg 4 nd c4.ok (ev_add (ev_mul ev_int (ev_v 1 (.int (u + 1))) (.inl ⟨by decide, by decide⟩)) (ev_div (ev_v 3 (.int p)) ev_int ⟨by decide, by decide⟩)) fun v5 d5 G5 H5 c5 e r5 => ?_
    subst e
    have e8 := r5.int_v
    subst e8
    have hb0 : 0 ≤ 69621 * (u + 1) + p / 41 ∧ 69621 * (u + 1) + p / 41 < 2 ^ 60 := by
      have h1 : 0 ≤ p / 41 := Int.ediv_nonneg (by omega) (by decide)
      have h2 : p / 41 ≤ p := Int.ediv_le_self _ (by omega)
      omega
    generalize hbl : 69621 * (u + 1) + p / 41 = b0 at hb0
    have st5 := (st2.ch0 c34).ch0 c5
    have c25 := c34.trans c5
    have e65 := c25.hh s _ (fun z => z) (fun z => z) e6
    refine q_for N0 (fun L i σ G' H' => ∃ (bl : Int) (d : Option V), σ = [some (.ref s), some (.int (u + 1)), some (.int f), some (.int p), some (.int bl), d] ∧ 0 ≤ bl ∧ bl < 2 ^ 60) c5.ok (EvI.toP (ei_list (ev_dk 0 hu (fun z => z) e65 rfl (e3.mono (cc.gg.trans c25.gg))))) (fun L G6 H6 c6 e => ⟨b0, d, rfl, hb0⟩) ?_ ?_
    · rintro L j dd σ1 G6 H6 rfl hdd c6 ⟨bl, d', rfl, b1, b2⟩ v6 G7 H7 c7 r7
      rw [List.getElem?_map] at hdd
      obtain ⟨x, hx, rfl⟩ := Option.map_eq_some_iff.mp hdd
      have e9 := r7.int_v
      subst e9
      refine g_name 5 nd ?_
      refine q_asg 4 nd c7.ok (ev_mod (ev_intI (n_int t) (ev_add (ev_add (ev_mul (ev_v 4 (.int bl)) ev_int (.inr ⟨by decide, by decide⟩)) (ev_v 5 (.int x))) (ev_v 1 (.int (u + 1))))) (ev_v 3 (.int p)) hp2.1) fun v8 d8 G8 H8 c8 e r8 => ?_
      subst e
      have e10 := r8.int_v
      subst e10
      refine q_nil ⟨G8, c8, _, _, rfl, Int.emod_nonneg _ (by omega), ?_⟩
      have := Int.emod_lt_of_pos (bl * 48271 + x + (u + 1)) hp2.1
      omega
    · rintro L σ1 G6 H6 rfl c6 ⟨bl, d', rfl, b1, b2⟩
      have hpow : CPow bl 5 := ⟨by decide, by decide, by omega⟩
      refine q_asg 2 nd c6.ok (ev_add (ev_mul (ev_v 2 (.int f)) ev_int (.inr ⟨by decide, by decide⟩)) (ev_mod (ev_intI (n_int t) (ev_pow (ev_v 4 (.int bl)) ev_int hpow)) (ev_v 3 (.int p)) hp2.1)) fun v8 d8 G8 H8 c8 e r8 => ?_
      subst e
      have e10 := r8.int_v
      subst e10
      refine q_nil ⟨G8, (c5.trans c6).trans c8, _, _, _, _, rfl, ?_⟩
      have h1 : 0 ≤ bl ^ (5 : Int).toNat % p := Int.emod_nonneg _ (by omega)
      have h2 : 0 ≤ f * 2147483659 := Int.mul_nonneg f0 (by decide)
      omega
  · rintro L σ1 G3 H3 rfl c3 ⟨f, a, b, d, rfl, f0⟩
    refine q_ret c3.ok (ev_v 2 (.int f)) fun v d G4 H4 c4 e rv => ?_
    subst e
    rw [rv.int_v]
    exact q f G4 H4 (cc.trans (c3.trans c4).of0) ((st2.ch0 c3).ch0 c4) f0
end Fx
set_option Elab.async false
set_option linter.all false
set_option maxRecDepth 100000
set_option maxHeartbeats 4000000
namespace Fx
open PySem L2 GX Hd
variable {P : Program} {w : World} {K : PySem.W.Frag} {mg : Str → Option Value} {base : Heap}
theorem arePy_intsZ (xs : List Int) : D.arePy (xs.map .int) = true := by
  induction xs with
  | nil => rfl
  | cons x xs ih => rw [List.map_cons, D.arePy, ih]; rfl
theorem depA_intsZ (xs : List Int) : PyData.depthAll (D.pys (xs.map .int)) ≤ 0 := by
  induction xs with
  | nil => simp [D.pys, PyData.depthAll]
  | cons x xs ih => simp [D.pys, D.py, PyData.depthAll, PyData.depth] at ih ⊢; omega
theorem dep_intsZ (xs : List Int) : dep 64 (.lst (xs.map .int)) := by
  unfold dep
  have := depA_intsZ xs
  simp only [D.py, PyData.depth]
  omega
/-! ### _law_draw -/
def spDraw (K : PySem.W.Frag) (mg : Str → Option Value) : Sp := fun vs H Q _ => ∃ (s g : Addr) (n : Nat) (G : Hp) (room : Int), vs = [.ref s, .int room] ∧ Ok W0 G H ∧ StS K mg s g n G H ∧ n < bigN ∧ 0 < room ∧ room < 1073741824 ∧
  ∀ j G1 H1, Ch W0 (Sg s g) G H G1 H1 → StS K mg s g (n + 1) G1 H1 → (0 : Int) ≤ j → j < room → Q (.int j) H1
theorem sc_draw : FnScope ["state", "room", "found"] ["state", "room"] (defScope s_law_draw) := ⟨rfl, rfl, rfl, by decide +kernel, rfl, by decide +kernel, by decide +kernel⟩
theorem c_draw (t : T K mg) : Cal P w K mg base CX0 "_law_draw" 2 ["state", "room"] (spDraw K mg) := by
  obtain ⟨fd, Fd⟩ := d_law_draw t
  refine mk_cal Fd (mk_fnR Fd sc_draw (fun vs H Q E ⟨_, _, _, _, _, e, _⟩ => by rw [e]; rfl) ?_) (g_law_draw t) (fun _ _ _ _ _ _ us hl => match us, hl with | [_, _], _ => rfl)
  intro cdv A outer s' H vs Q E hr h
  obtain ⟨s, g, n, G, room, rfl, ko, st, hn, hp, hp2, q⟩ := h
  have nd := sc_draw.nd
  have hu := hu_of hr
  have hu64 : (aD "_law_draw" (defScope s_law_draw) s' (He.ga K "_law_draw") cdv A).units + 64 < cLine := by have := hr.un; omega
  obtain ⟨c, r, u, gr, ce, e1, e2, e3, r0, u0, un, g0, gl, c0, cl⟩ := st.ex
  refine q_ifM (fun σ' H' => σ' = start ["state", "room", "found"] [V.ref s, V.int room] ∧ ∃ G', Ch W0 (Sg s g) G H G' H' ∧ StS K mg s g (n + 1) G' H') ko (et_eqI (ev_dk 0 hu (fun z => z) e1 rfl (.int r)) ev_int) (fun hb G1 H1 c1 => ?_) (fun hb G1 H1 c1 => ?_) ?_
  · have e1' := c1.hh s _ (fun z => z) (fun z => z) e1
    have st1 := st.ch0 c1
    have e2' := c1.hh g _ (fun z => z) (fun z => z) e2
    have og : OwnL K mg W0 G1 H1 g (gr.map .int) := ⟨st1.gg, fun z => z, _, e2', RpA.ints gr⟩
    refine q_dputX (ib := 0) (l := s) hu (semE_of (pe_ifExp pt_sem pe_sem pe_sem) ?_)
    refine (OwnL.et og c1.ok (fun G' k' ext rp => et_neNil hu64 (ev_dk 0 hu (fun z => z) e1' rfl rp) (arePy_intsZ gr) (dep_intsZ gr))) G1 H1 (Ch.refl c1.ok) _ fun b G2 H2 c2 eb => ?_
    have st2 := st1.ch0 c2
    have e1'' := c2.hh s _ (fun z => z) (fun z => z) e1'
    have e2'' := c2.hh g _ (fun z => z) (fun z => z) e2'
    have c12 := c1.trans c2
    rw [List.isEmpty_map] at eb
    cases gr with
    | nil =>
      subst eb
      show semE _ _ _ H2 _
      refine semE_callR (c_mixed t) (hr.mono (by decide)) (semA_1 (semE_v 0 rfl ⟨s, g, n, G2, rfl, c2.ok, st2, hn, fun i G3 H3 c3 st3 hi => ?_⟩))
      obtain ⟨c', r', u', gr', ce', f1, f2, f3, f4, f5, f6, f7, f8, f9, f10⟩ := st3.ex
      refine ⟨_, f1, show 4 < 10000 by decide, q_nil ⟨rfl, G3, ?_, ?_⟩⟩
      · have cw : Ch W0 (Sg s g) G3 H3 G3 (upd H3 s (.dK (putK [(.inr "great", .ref g), (.inr "cells", c'), (.inr "rest", .int r'), (.inr "turn", .int u')] (.inr "rest") (.int i)))) := Ch.write c3.ok st3.gs (fun z => z) (Or.inl rfl)
        exact c12.of0.trans ((c3.sub fun x hx => Or.inl hx).trans cw)
      · exact ⟨st3.gs, st3.gg, st3.ne, c', i, u', gr', ce', by rw [put_rest]; exact upd_same, by rw [upd_ne st3.ne]; exact f2, f3, hi, f5, f6, f7, f8, f9, f10⟩
    | cons x gr =>
      subst eb
      show semE _ _ _ H2 _
      refine semE_of (pe_bm PySem.F.plainAttrs_list PySem.F.slot_list_pop PySem.F.type_list_pop mt_popAt pe_sem (pa_cons pe_sem pa_nil)) (semE_dk (ib := 0) hu e1'' rfl ?_)
      refine ⟨.inl ⟨rfl, _, SqL.of e2''⟩, semE_of pe_int ?_⟩
      refine ⟨g, _, 0, 0, .int x, rfl, rfl, e2'', by decide, by decide, ?_, rfl, ?_⟩
      · exact (ixN_seq (n := ((x :: gr).map V.int).length) (i := (0 : Int)) (j := 0) (by simp [ixN])).1
      have cg : Ch W0 (Sg s g) G2 H2 G2 (upd H2 g (.lst (((x :: gr).map V.int).eraseIdx 0))) := Ch.write c2.ok st2.gg (fun z => z) (Or.inr rfl)
      have es : upd H2 g (.lst (((x :: gr).map V.int).eraseIdx 0)) s = some (.dK [(.inr "great", .ref g), (.inr "cells", c), (.inr "rest", .int r), (.inr "turn", .int u)]) := by rw [upd_ne (fun z : s = g => st2.ne z.symm)]; exact e1''
      refine ⟨_, es, show 4 < 10000 by decide, q_nil ⟨rfl, G2, ?_, ?_⟩⟩
      · have cw : Ch W0 (Sg s g) G2 (upd H2 g (.lst (((x :: gr).map V.int).eraseIdx 0))) G2 (upd (upd H2 g (.lst (((x :: gr).map V.int).eraseIdx 0))) s (.dK (putK [(.inr "great", .ref g), (.inr "cells", c), (.inr "rest", .int r), (.inr "turn", .int u)] (.inr "rest") (.int x)))) := Ch.write cg.ok st2.gs (fun z => z) (Or.inl rfl)
        exact c12.of0.trans (cg.trans cw)
      · exact ⟨st2.gs, st2.gg, st2.ne, c, x, u, gr, ce, by rw [put_rest]; exact upd_same, by rw [upd_ne st2.ne]; exact upd_same, e3.mono (c1.gg.trans c2.gg), g0 x List.mem_cons_self, u0, by omega, fun y hy => g0 y (List.mem_cons_of_mem _ hy), by simp at gl; omega, c0, cl⟩
  · exact q_nil ⟨rfl, G1, c1.of0, (st.ch0 c1).le (Nat.le_succ n)⟩
  · rintro σ' H' ⟨rfl, G1, c1, st1⟩
    obtain ⟨c, r, u, gr, ce, e1, e2, e3, r0, u0, un, g0, gl, c0, cl⟩ := st1.ex
    refine q_asg 2 nd c1.ok (ev_mod (ev_intI (n_int t) (ev_dk 0 hu (fun z => z) e1 rfl (.int r))) (ev_v 1 (.int room)) hp) fun v d G2 H2 c2 e r2 => ?_
    subst e
    have e5 := r2.int_v
    subst e5
    have st2 := st1.ch0 c2
    have e1' := c2.hh s _ (fun z => z) (fun z => z) e1
    have e2' := c2.hh g _ (fun z => z) (fun z => z) e2
    refine q_dputR (ib := 0) (l := s) (kvs := [(.inr "great", .ref g), (.inr "cells", c), (.inr "rest", .int r), (.inr "turn", .int u)]) hu (show 4 < 10000 by decide) (Ev.s (ev_div (ev_dk 0 hu (fun z => z) e1' rfl (.int r)) (ev_v 1 (.int room)) ⟨hp, hp2⟩) c2.ok fun v d G3 H3 c3 e r3 => ?_)
    subst e
    have e6 := r3.int_v
    subst e6
    have e1'' := c3.hh s _ (fun z => z) (fun z => z) e1'
    have e2'' := c3.hh g _ (fun z => z) (fun z => z) e2'
    refine ⟨e1'', ?_⟩
    rw [put_rest]
    have st3 := st2.ch0 c3
    have cw : Ch W0 (Sg s g) G3 H3 G3 (upd H3 s (.dK [(.inr "great", .ref g), (.inr "cells", c), (.inr "rest", .int (r / room)), (.inr "turn", .int u)])) := Ch.write c3.ok st3.gs (fun z => z) (Or.inl rfl)
    generalize hH4 : upd H3 s (.dK [(.inr "great", .ref g), (.inr "cells", c), (.inr "rest", .int (r / room)), (.inr "turn", .int u)]) = H4 at cw
    have st4 : StS K mg s g (n + 1) G3 H4 := ⟨st3.gs, st3.gg, st3.ne, c, r / room, u, gr, ce, by rw [← hH4]; exact upd_same, by rw [← hH4, upd_ne st3.ne]; exact e2'', e3.mono (c2.gg.trans c3.gg), Int.ediv_nonneg r0 (by omega), u0, un, g0, gl, c0, cl⟩
    refine q_ret cw.ok (ev_v 2 (.int (r % room))) fun v d G5 H5 c5 e rv => ?_
    subst e
    rw [rv.int_v]
    exact q _ G5 H5 (c1.trans (c2.of0.trans (c3.of0.trans (cw.trans c5.of0)))) (st4.ch0 c5) (Int.emod_nonneg _ (by omega)) (Int.emod_lt_of_pos _ hp)
end Fx
set_option Elab.async false
set_option linter.all false
set_option maxRecDepth 100000
set_option maxHeartbeats 4000000
namespace Fx
open PySem L2 GX Hd
variable {P : Program} {w : World} {K : PySem.W.Frag} {mg : Str → Option Value} {base : Heap}
/-! ### _law_pick -/
def spPick (K : PySem.W.Frag) (mg : Str → Option Value) : Sp := fun vs H Q _ => ∃ (s g : Addr) (n : Nat) (G : Hp) (v : V) (d : D) (ds : List D), vs = [.ref s, v] ∧ Ok W0 G H ∧ StS K mg s g n G H ∧ n < bigN ∧ Rp K mg G v d ∧ seq? d = some ds ∧ ds ≠ [] ∧ ds.length < 1000000 ∧
  ∀ y dy G1 H1, Ch W0 (Sg s g) G H G1 H1 → StS K mg s g (n + 1) G1 H1 → dy ∈ ds → Rp K mg G1 y dy → Q y H1
theorem sc_pick : FnScope ["state", "some"] ["state", "some"] (defScope s_law_pick) := ⟨rfl, rfl, rfl, by decide +kernel, rfl, by decide +kernel, by decide +kernel⟩
theorem atI_ok {α : Type} {xs : List α} {j : Int} (h0 : 0 ≤ j) (h1 : j < xs.length) : ∃ x, xs[j.toNat]? = some x ∧ atI xs j = some x := by
  have hj : j.toNat < xs.length := by omega
  exact ⟨xs[j.toNat], List.getElem?_eq_getElem hj, atI_i h0 (List.getElem?_eq_getElem hj)⟩
theorem c_pick (t : T K mg) : Cal P w K mg base CX0 "_law_pick" 3 ["state", "some"] (spPick K mg) := by
  obtain ⟨fd, Fd⟩ := d_law_pick t
  refine mk_cal Fd (mk_fnR Fd sc_pick (fun vs H Q E ⟨_, _, _, _, _, _, _, e, _⟩ => by rw [e]; rfl) ?_) (g_law_pick t) (fun _ _ _ _ _ _ us hl => match us, hl with | [_, _], _ => rfl)
  intro cdv A outer s' H vs Q E hr h
  obtain ⟨s, g, n, G, v, d, ds, rfl, ko, st, hn, rv, hd, hne, hl, q⟩ := h
  have hpos := List.length_pos_iff.mpr hne
  obtain ⟨a, xs, rfl, hx, rx⟩ := rv.seq hd
  refine q_retE (semE_of (pe_ix ix_seq pe_sem pe_sem (fun _ _ => rfl)) (semE_v 1 rfl ?_))
  refine semE_callR (c_draw t) (hr.mono (by decide)) (semA_2 (semE_v 0 rfl (Ev.s (ev_len (n_len t) (ev_v 1 rv) hd) ko fun v2 d2 G1 H1 c1 e2 r2 => ?_)))
  subst e2
  rw [r2.int_v]
  refine ⟨s, g, n, G1, ds.length, rfl, c1.ok, st.ch0 c1, hn, by omega, by omega, fun j G2 H2 c2 st2 j0 j1 => ?_⟩
  obtain ⟨dy, g1, _⟩ := atI_ok (xs := ds) j0 j1
  obtain ⟨y, g2, ry⟩ := rx.get g1
  have cc := c1.of0.trans c2
  have fin := q y dy G2 H2 cc st2 (List.mem_of_getElem? g1) (ry.mono cc.gg)
  rcases hx with hx | hx
  · exact .inl ⟨a, xs, j, y, rfl, rfl, c2.ok.gh.l (cc.gg.l hx), atI_i j0 g2, fin⟩
  · exact .inr (.inl ⟨a, xs, j, y, rfl, rfl, c2.ok.gh.t (cc.gg.t hx), atI_i j0 g2, fin⟩)
/-! ### _law_shuffled -/
theorem arePy_of : ∀ {l : List D}, (∀ d ∈ l, d.isPy = true) → D.arePy l = true
  | [], _ => rfl
  | d :: l, h => by
    rw [D.arePy, h d List.mem_cons_self, arePy_of fun x hx => h x (List.mem_cons_of_mem _ hx)]; rfl
theorem depA_of : ∀ {l : List D}, (∀ d ∈ l, dep 60 d) → PyData.depthAll (D.pys l) ≤ 60
  | [], _ => by simp [D.pys, PyData.depthAll]
  | d :: l, h => by
    have h1 : d.py.depth ≤ 60 := h d List.mem_cons_self
    have h2 := depA_of (l := l) fun x hx => h x (List.mem_cons_of_mem _ hx)
    simp only [D.pys, PyData.depthAll]
    omega
theorem dep_of {l : List D} (h : ∀ d ∈ l, dep 60 d) : dep 64 (.lst l) := by
  have := depA_of h
  unfold dep
  simp only [D.py, PyData.depth]
  omega
def spShuf (K : PySem.W.Frag) (mg : Str → Option Value) : Sp := fun vs H Q _ => ∃ (s g : Addr) (n : Nat) (G : Hp) (v : V) (d : D) (ds : List D), vs = [.ref s, v] ∧ Ok W0 G H ∧ StS K mg s g n G H ∧ n + ds.length ≤ bigN ∧ Rp K mg G v d ∧ seq? d = some ds ∧ ds.length ≤ 1000 ∧ (∀ d ∈ ds, d.isPy = true ∧ dep 60 d) ∧
  ∀ y ds' G1 H1, Ch W0 (Sg s g) G H G1 H1 → StS K mg s g (n + ds.length) G1 H1 → ds'.Perm ds → Rp K mg G1 y (.lst ds') → Q y H1
theorem sc_shuf : FnScope ["state", "some", "left", "found"] ["state", "some"] (defScope s_law_shuffled) := ⟨rfl, rfl, rfl, by decide +kernel, rfl, by decide +kernel, by decide +kernel⟩
theorem perm_move {F L ds : List D} {j : Nat} {d : D} (h : (F ++ L).Perm ds) (hj : L[j]? = some d) : ((F ++ [d]) ++ L.eraseIdx j).Perm ds := by
  refine List.Perm.trans ?_ h
  rw [List.append_assoc]
  exact List.Perm.append_left F (L2.erase_perm L j d hj)
theorem seqIx {n m : Nat} (h : m < n) : seqIndex? (m : Int) n = some m := (ixN_seq (n := n) (i := (m : Int)) (j := m) (by simp [ixN, h])).1
theorem c_shuf (t : T K mg) : Cal P w K mg base CX0 "_law_shuffled" 3 ["state", "some"] (spShuf K mg) := by
  obtain ⟨fd, Fd⟩ := d_law_shuffled t
  refine mk_cal Fd (mk_fnR Fd sc_shuf (fun vs H Q E ⟨_, _, _, _, _, _, _, e, _⟩ => by rw [e]; rfl) ?_) (g_law_shuffled t) (fun _ _ _ _ _ _ us hl => match us, hl with | [_, _], _ => rfl)
  intro cdv A outer s' H vs Q E hr h
  obtain ⟨s, g, n, G, v, d, ds, rfl, ko, st, hn, rv, hd, hl, hpy, q⟩ := h
  have nd := sc_shuf.nd
  have hu64 : (aD "_law_shuffled" (defScope s_law_shuffled) s' (He.ga K "_law_shuffled") cdv A).units + 64 < cLine := by have := hr.un; omega
  refine q_parNN 2 3 nd ko (en_list (n_list t) (ev_v 1 rv) hd) (en_lst ea_nil) fun p1 p2 d1 d2 G1 H1 c1 e1 e2 o1 o2 hne hn1 hn2 => ?_
  subst e1; subst e2
  have trs := st.tr
  have n1s : p1 ≠ s := fun z => trs.1 (by rw [← z]; exact hn1)
  have n1g : p1 ≠ g := fun z => trs.2 (by rw [← z]; exact hn1)
  have n2s : p2 ≠ s := fun z => trs.1 (by rw [← z]; exact hn2)
  have n2g : p2 ≠ g := fun z => trs.2 (by rw [← z]; exact hn2)
  refine q_while (fun x => Sg s g x ∨ x = p1 ∨ x = p2) (fun m σ G' H' => σ = [some (.ref s), some v, some (.ref p1), some (.ref p2)] ∧ ∃ F L, OwnL K mg W0 G' H' p1 L ∧ OwnL K mg W0 G' H' p2 F ∧ (F ++ L).Perm d1 ∧ m = L.length ∧ StS K mg s g (n + F.length) G' H') c1.ok
    ⟨d1.length, rfl, [], d1, o1, o2, List.Perm.refl _, rfl, st.ch0 c1⟩ ?_
  rintro m σ1 G2 H2 c2 ⟨rfl, F, L, o1, o2, hpm, rfl, st2⟩
  have hlen : F.length + L.length = d1.length := by rw [← List.length_append]; exact hpm.length_eq
  have hLm : ∀ x ∈ L, x ∈ d1 := fun x hx => hpm.subset (List.mem_append_right F hx)
  refine ⟨(· = !L.isEmpty), (o1.et c2.ok fun G' k' ext rp => et_neNil hu64 (ev_v 2 rp) (arePy_of fun x hx => (hpy x (hLm x hx)).1) (dep_of fun x hx => (hpy x (hLm x hx)).2)), fun hb G3 H3 c3 => ?_, fun hb G3 H3 c3 => ?_⟩
  · have hL : L ≠ [] := fun z => by rw [z] at hb; cases hb
    have hpos := List.length_pos_iff.mpr hL
    have o1 := o1.ch0 c3
    have o2 := o2.ch0 c3
    have st3 := st2.ch0 c3
    obtain ⟨vs2, hv2, _⟩ := o2.ex
    refine q_appE (i := 3) hv2 rfl ?_
    obtain ⟨vs1, hv1, rv1⟩ := o1.ex
    refine semE_of (pe_bm PySem.F.plainAttrs_list PySem.F.slot_list_pop PySem.F.type_list_pop mt_popAt pe_sem (pa_cons pe_sem pa_nil)) (semE_v 2 rfl ?_)
    refine ⟨.inl ⟨rfl, _, SqL.of hv1⟩, ?_⟩
    refine semE_callR (c_draw t) (hr.mono (by decide)) (semA_2 (semE_v 0 rfl (Ev.s (o1.ev c3.ok (fun G' k' ext rp => ev_len (n_len t) (ev_v 2 rp)) (fun d e => by rw [e]; rfl)) c3.ok fun v2 d2 G4 H4 c4 e4 r4 => ?_)))
    subst e4
    rw [r4.int_v]
    refine ⟨s, g, n + F.length, G4, L.length, rfl, c4.ok, st3.ch0 c4, by omega, by omega, by omega, fun j G5 H5 c5 st5 j0 j1 => ?_⟩
    have ns1 : ¬ Sg s g p1 := fun z => z.elim n1s n1g
    have ns2 : ¬ Sg s g p2 := fun z => z.elim n2s n2g
    have o1 := (o1.ch0 c4).ch c5 ns1
    have o2 := (o2.ch0 c4).ch c5 ns2
    obtain ⟨dy, g1, _⟩ := atI_ok (xs := L) j0 j1
    obtain ⟨ws, hw, rw⟩ := o1.ex
    obtain ⟨y, g2, ry⟩ := rw.get g1
    have hwl := rw.length
    refine ⟨p1, ws, j, j.toNat, y, rfl, rfl, hw, by omega, by omega, ?_, g2, ?_⟩
    · have z := seqIx (m := j.toNat) (n := ws.length) (by omega)
      rw [Int.toNat_of_nonneg j0] at z
      exact z
    have cw : Ch W0 (fun a => a = p1) G5 H5 G5 (upd H5 p1 (.lst (ws.eraseIdx j.toNat))) := Ch.write c5.ok o1.g (fun z => z) rfl
    have o2w := o2.ch cw fun z => hne z.symm
    obtain ⟨us, hus, rus⟩ := o2w.ex
    refine ⟨us, hus, by rw [rus.length]; omega, ?_⟩
    have cx : Ch W0 (fun a => a = p2) G5 (upd H5 p1 (.lst (ws.eraseIdx j.toNat))) G5 (upd (upd H5 p1 (.lst (ws.eraseIdx j.toNat))) p2 (.lst (us ++ [y]))) := Ch.write cw.ok o2w.g (fun z => z) rfl
    have o1x : OwnL K mg W0 G5 (upd (upd H5 p1 (.lst (ws.eraseIdx j.toNat))) p2 (.lst (us ++ [y]))) p1 (L.eraseIdx j.toNat) := ⟨o1.g, o1.m, _, by rw [upd_ne hne]; exact upd_same, rw.eraseIdx j.toNat⟩
    have cc : Ch W0 (fun x => Sg s g x ∨ x = p1 ∨ x = p2) G3 H3 G5 (upd (upd H5 p1 (.lst (ws.eraseIdx j.toNat))) p2 (.lst (us ++ [y]))) := c4.of0.trans ((c5.sub fun x hx => Or.inl hx).trans ((cw.sub fun x hx => Or.inr (Or.inl hx)).trans (cx.sub fun x hx => Or.inr (Or.inr hx))))
    have jl : j.toNat < L.length := by omega
    refine q_nil ⟨(L.eraseIdx j.toNat).length, G5, by rw [List.length_eraseIdx_of_lt jl]; omega, cc, rfl, F ++ [dy], L.eraseIdx j.toNat, o1x, ⟨o2w.g, o2w.m, _, upd_same, rus.append (.cons ry .nil)⟩, perm_move hpm g1, rfl, ?_⟩
    have sx := (st5.ch cw (fun z => n1s z.symm) (fun z => n1g z.symm)).ch cx (fun z => n2s z.symm) (fun z => n2g z.symm)
    rw [List.length_append, List.length_singleton]
    exact sx
  · have hL : L = [] := by
      cases L with
      | nil => rfl
      | cons x L => cases hb
    subst hL
    rw [List.append_nil] at hpm
    have o2 := o2.ch0 c3
    have ca : Ch W0 (Sg s g) G H G3 H3 := (c1.of0 (S := Sg s g)).loc (c2.trans c3.of0) fun x hx => by
      rcases hx with hx | hx | hx
      · exact .inl hx
      · exact .inr (by rw [hx]; exact hn1)
      · exact .inr (by rw [hx]; exact hn2)
    obtain ⟨G4, c4, r4, ext⟩ := o2.fz ca hn2
    obtain ⟨vs2, hv2, _⟩ := o2.ex
    refine q_retE (semE_v 3 rfl (q (.ref p2) F G4 H3 c4 ?_ hpm r4))
    have sx := st2.ch0 c3
    rw [hpm.length_eq] at sx
    obtain ⟨c', r', u', gr', ce', f1, f2, f3, more⟩ := sx.ex
    exact ⟨c4.fr s trs.1 st.gs, c4.fr g trs.2 st.gg, sx.ne, c', r', u', gr', ce', f1, f2, f3.mono ext, more⟩
/-! ### _law_is -/
def spIs (K : PySem.W.Frag) (mg : Str → Option Value) : Sp := fun vs H Q _ => ∃ (G : Hp) (a b : V) (d : D), vs = [a, b] ∧ Ok W0 G H ∧ Rp K mg G a d ∧ Rp K mg G b d ∧ (seq? d).isSome = true ∧ d.isPy = true ∧ d.py.showable = true ∧ dep 64 d ∧ d.py.shown.length ≤ sizeLine ∧
  ∀ G1 H1, Ch W0 N0 G H G1 H1 → Q (.bl true) H1
theorem sc_is : FnScope ["found", "due"] ["found", "due"] (defScope s_law_is) := ⟨rfl, rfl, rfl, by decide +kernel, rfl, by decide +kernel, by decide +kernel⟩
theorem ev_eqS {X : Cx} {W : Wd} {a b : Expr} {σ : L2.St} {G H : Hp} {pos : Pos} {x y : Str} (ha : Ev X W a σ G H (· = .str x)) (hb : Ev X W b σ G H (· = .str y)) : Ev X W (.Compare a [.Eq] [b] pos) σ G H (· = .bl (decide (x = y))) :=
  (ev_cmp op_eq ha hb (rr_eq rfl rfl rfl) (nomark _)).imp fun d ⟨k, e, h⟩ => by rw [e, h, decV_str]
theorem f_is (t : T K mg) : ∃ fd, FunD K "_law_is" "_law_is" (defArgs s_law_is) (defBody s_law_is) (defScope s_law_is) [] [] (He.ga K "_law_is") fd ∧ FnG P w K mg base CX0 1 (He.ga K "_law_is") fd ["found", "due"] (spIs K mg) := by
  obtain ⟨fd, Fd⟩ := d_law_is t
  refine ⟨fd, Fd, mk_fnG Fd sc_is (fun vs H Q E ⟨_, _, _, _, e, _⟩ => by rw [e]; rfl) ?_⟩
  intro cdv A outer s' H vs Q E gA hr h
  obtain ⟨G, a, b, d, rfl, ko, ra, rb, h1, h2, h3, h4, h5, q⟩ := h
  have hu64 : (aD "_law_is" (defScope s_law_is) s' (He.ga K "_law_is") cdv A).units + 64 < cLine := by have := hr.un; omega
  have hu70 : (aD "_law_is" (defScope s_law_is) s' (He.ga K "_law_is") cdv A).units + 70 < cLine := by have := hr.un; omega
  have er : PyData.eqv d.py d.py = true := PySem.SeqAt.eqv_refl _ (py_lay d h2)
  refine q_ret ko (ev_and (ev_eqD hu64 (ev_v 0 ra) (ev_v 1 rb) h2 h2 h4 h4) fun _ => ev_and (ev_eqD hu64 (ev_v 1 rb) (ev_v 0 ra) h2 h2 h4 h4) fun _ => ev_one (ev_eqS (ev_repr gA hu70 (n_repr t) (ev_v 0 ra) h1 h2 h3 h4 h5) (ev_repr gA hu70 (n_repr t) (ev_v 1 rb) h1 h2 h3 h4 h5))) fun v d1 G1 H1 c1 e rv => ?_
  subst e
  rw [er] at rv
  have e2 := rv.bl_v
  rw [e2]
  simpa using q G1 H1 c1
end Fx
set_option Elab.async false
set_option linter.all false
set_option maxRecDepth 100000
set_option maxHeartbeats 4000000
namespace Fx
open PySem L2 GX Hd
/-! ### names drawn -/
theorem perm_strs {ds : List D} {xs : List Str} (h : ds.Perm (xs.map .str)) : ∃ ys : List Str, ds = ys.map .str ∧ ys.Perm xs := by
  have un : ∀ l : List Str, (l.map D.str).map (fun d => match d with | .str x => x | _ => "") = l := fun l => by rw [List.map_map]; exact List.map_id' l
  refine ⟨ds.map (fun d => match d with | .str x => x | _ => ""), ?_, ?_⟩
  · rw [List.map_map]
    symm
    rw [List.map_congr_left (g := id) fun d hd => ?_, List.map_id]
    obtain ⟨x, _, rfl⟩ := List.mem_map.mp (h.subset hd)
    rfl
  · have := h.map (fun d => match d with | D.str x => x | _ => "")
    rw [un] at this
    exact this
section
variable {X : Cx} {le me : Expr} {σ : L2.St} {G H : Hp} {p1 p2 p3 p4 p5 p6 p7 p8 p9 p10 : Pos} {jc : Nat} {s g : Addr} {n : Nat} {Q : VK}
/-- _law_shuffled(state, names)[:1 + _law_draw(state, m)] -/
theorem semE_names (ib : Nat) {names : List Str} {m : Int} (Cs : Cal X.prog X.w X.K X.mg X.base CX0 "_law_shuffled" 3 ["state", "some"] (spShuf X.K X.mg)) (Cd : Cal X.prog X.w X.K X.mg X.base CX0 "_law_draw" 2 ["state", "room"] (spDraw X.K X.mg)) (hr : Room 3 X.A) (ko : Ok W0 G H) (st : StS X.K X.mg s g n G H) (hn : n + names.length < bigN)
    (hl : Ev X W0 le σ G H (· = .lst (names.map .str))) (hm : ∀ G1 H1, Ok W0 G1 H1 → Ev X W0 me σ G1 H1 (· = .int m)) (m0 : 0 < m) (m1 : m ≤ names.length) (hz : names.length ≤ 1000) (hnd : names.Nodup) (hok : ∀ x ∈ names, PyData.strOk x = true)
    (q : ∀ v (xs : List Str) G1 H1, Ch W0 (Sg s g) G H G1 H1 → StS X.K X.mg s g (n + names.length + 1) G1 H1 → Rp X.K X.mg G1 v (.lst (xs.map .str)) → xs.Nodup → (∀ x ∈ xs, x ∈ names) → 1 ≤ xs.length → (xs.length : Int) ≤ m → Q v H1)
    (hs : σ[ib]? = some (some (.ref s)) := by rfl) (hN : X.N[ib]? = some "state" := by rfl) (hv : Vis X.env.scope "state" := by first | exact Or.inl rfl | exact Or.inr (Or.inl rfl) | exact Or.inr (Or.inr rfl))
    (g1 : Gl X "_law_shuffled" := by rfl) (g2 : Gl X "_law_draw" := by rfl) (s1 : starEach [.Name "state" p2, le] X.env = (false, eval (.Name "state" p2) X.env) :: starEach [le] X.env := by rfl) (s2 : starEach [le] X.env = (false, eval le X.env) :: starEach [] X.env := by rfl) (s3 : (backTo p3 (starEach [le] X.env)).any (·.1) = false := by rfl)
    (s4 : starEach [.Name "state" p6, me] X.env = (false, eval (.Name "state" p6) X.env) :: starEach [me] X.env := by rfl) (s5 : starEach [me] X.env = (false, eval me X.env) :: starEach [] X.env := by rfl) (s6 : (backTo p7 (starEach [me] X.env)).any (·.1) = false := by rfl) :
    semE X (.Subscript (.Call (.Name "_law_shuffled" p1) [.Name "state" p2, le] [] p3) (.Slice none (some (.BinOp (.Constant (.int 1) jc p4) .Add (.Call (.Name "_law_draw" p5) [.Name "state" p6, me] [] p7) p8)) none p9) p10) σ H Q := by
  refine semE_takeL (semE_callR Cs hr (semA_2 (semE_v ib hs (hl.s ko fun v2 d2 G1 H1 c1 e1 r1 => ?_) hN hv) s1 s2) g1 (by decide) s1 s3)
  subst e1
  refine ⟨s, g, n, G1, v2, _, _, rfl, c1.ok, st.ch0 c1, by rw [List.length_map]; omega, r1, rfl, by rw [List.length_map]; exact hz, fun d hd => ?_, fun y ds' G2 H2 c2 st2 hp r2 => ?_⟩
  · obtain ⟨x, hx, rfl⟩ := List.mem_map.mp hd
    exact ⟨hok x hx, by show 0 ≤ 60; omega⟩
  rw [List.length_map] at st2
  obtain ⟨ys, rfl, hp'⟩ := perm_strs hp
  have c12 := c1.of0.trans c2
  refine semE_add (semE_of pe_int (semE_callR Cd (hr.mono (by decide)) (semA_2 (semE_v ib hs ((hm G2 H2 c2.ok).s c2.ok fun v3 d3 G3 H3 c3 e3 r3 => ?_) hN hv) s4 s5) g2 (by decide) s4 s6))
  subst e3
  rw [r3.int_v]
  refine ⟨s, g, n + names.length, G3, m, rfl, c3.ok, st2.ch0 c3, hn, m0, by omega, fun j G4 H4 c4 st4 j0 j1 => ?_⟩
  obtain ⟨a, vs, rfl, hsq, rs⟩ := r2.lst_v
  have c34 := c3.of0.trans c4
  refine ⟨1, j, rfl, rfl, a, vs, (1 + j).toNat, rfl, by rw [Int.toNat_of_nonneg (by omega)], c4.ok.gh.l (c34.gg.l hsq), fun r hr' => ?_⟩
  have cn : Ch W0 (Sg s g) G4 H4 (upd G4 r (.lst (vs.take (1 + j).toNat))) (upd H4 r (.lst (vs.take (1 + j).toNat))) := Ch.new c4.ok hr'
  have hlen : ys.length = names.length := hp'.length_eq
  have ns : ¬ (fun a => a = r) s := fun z => st4.tr.1 (by have z' : s = r := z; rw [z']; exact hr')
  have ng : ¬ (fun a => a = r) g := fun z => st4.tr.2 (by have z' : g = r := z; rw [z']; exact hr')
  have cn0 : Ch W0 N0 G4 H4 (upd G4 r (.lst (vs.take (1 + j).toNat))) (upd H4 r (.lst (vs.take (1 + j).toNat))) := Ch.new c4.ok hr'
  refine q _ (ys.take (1 + j).toNat) _ _ (c12.trans (c34.trans cn)) (st4.ch0 cn0) ?_ (hp'.symm.nodup hnd |>.sublist (List.take_sublist _ _)) (fun x hx => hp'.subset (List.mem_of_mem_take hx)) ?_ ?_
  · rw [List.map_take]
    exact .lst (SqL.of upd_same) ((rs.mono (c34.gg.trans cn.gg)).take _)
  · rw [List.length_take]; omega
  · rw [List.length_take]; omega
end
end Fx
set_option Elab.async false
set_option linter.all false
set_option maxRecDepth 100000
set_option maxHeartbeats 4000000
namespace Fx
open PySem L2 GX Hd
variable {P : Program} {w : World} {K : PySem.W.Frag} {mg : Str → Option Value} {base : Heap}
theorem semA_3 {X : Cx} {a b c : Expr} {σ : L2.St} {H : Hp} {Q : List V → Hp → Prop} (h : semE X a σ H fun v H1 => semE X b σ H1 fun w H2 => semE X c σ H2 fun u H3 => Q [v, w, u] H3) (hs : starEach [a, b, c] X.env = (false, eval a X.env) :: starEach [b, c] X.env := by rfl) (hs2 : starEach [b, c] X.env = (false, eval b X.env) :: starEach [c] X.env := by rfl) (hs3 : starEach [c] X.env = (false, eval c X.env) :: starEach [] X.env := by rfl) : semA X [a, b, c] σ H Q := semA_of (pa_cons pe_sem (pa_cons pe_sem (pa_cons pe_sem pa_nil hs3) hs2) hs) h
def waresN : List Str := ["x", "y", "z", "u", "ore"]
def roomsN : List Str := ["p", "q", "r", "x"]
theorem names_ok : (∀ x ∈ waresN, isNameS x = true) ∧ (∀ x ∈ roomsN, isNameS x = true) ∧ waresN.Nodup ∧ roomsN.Nodup ∧ (∀ x ∈ waresN, x.length ≤ 6) ∧ (∀ x ∈ roomsN, x.length ≤ 6) := by decide +kernel
/-- what _law_house draws -/
structure Drawn (ws rs : List Str) : Prop where
  w : ∀ x ∈ ws, x ∈ waresN
  r : ∀ x ∈ rs, x ∈ roomsN
  wn : ws.Nodup
  rn : rs.Nodup
  w1 : 1 ≤ ws.length
  w2 : ws.length ≤ 2
  r1 : 1 ≤ rs.length
  r2 : rs.length ≤ 4
theorem areNames_of {xs ns : List Str} {m : Int} (h : ∀ x ∈ xs, x ∈ ns) (hn : ∀ x ∈ ns, isNameS x = true) (nd : xs.Nodup) (h1 : 1 ≤ xs.length) (h2 : (xs.length : Int) ≤ m) : areNames xs m = true := by
  unfold areNames
  simp only [Bool.and_eq_true, decide_eq_true_eq, List.all_eq_true]
  exact ⟨⟨by omega, h2⟩, fun x hx => hn x (h x hx), nd⟩
theorem six_le (n : Nat) (h : n ≤ 6) : n ≤ sizeLine := by rw [sizeLine_eq]; omega
def StpOk (ws rs : List Str) (s : Stp) : Prop := s.1 ∈ rs ∧ s.2.2 ∈ rs ∧ s.2.1.length = ws.length ∧ ∀ c ∈ s.2.1, -2 ≤ c ∧ c ≤ 2
theorem Drawn.hok {ws rs : List Str} {ss : List Stp} (d : Drawn ws rs) (h1 : 1 ≤ ss.length) (h2 : ss.length ≤ 8) (hs : ∀ s ∈ ss, StpOk ws rs s) : HOk ws rs ss where
  w := areNames_of d.w names_ok.1 d.wn d.w1 (by have := d.w2; omega)
  r := areNames_of d.r names_ok.2.1 d.rn d.r1 (by have := d.r2; omega)
  s1 := h1
  s2 := h2
  st := fun s hm => by
    obtain ⟨a, b, c, e⟩ := hs s hm
    unfold isStepB
    simp only [Bool.and_eq_true, decide_eq_true_eq, List.all_eq_true]
    exact ⟨names_ok.2.1 _ (d.r _ a), names_ok.2.1 _ (d.r _ b), a, b, by rw [c], fun x hx => by have := e x hx; omega⟩
  zw := fun x hx => six_le _ (names_ok.2.2.2.2.1 x (d.w x hx))
  zr := fun x hx => six_le _ (names_ok.2.2.2.2.2 x (d.r x hx))
  zs := fun s hm => by
    obtain ⟨a, b, c, e⟩ := hs s hm
    exact ⟨six_le _ (names_ok.2.2.2.2.2 _ (d.r _ a)), six_le _ (names_ok.2.2.2.2.2 _ (d.r _ b)), by rw [c]; have := d.w2; omega⟩
def spHouse (K : PySem.W.Frag) (mg : Str → Option Value) : Sp := fun vs H Q _ => ∃ (s g : Addr) (n : Nat) (G : Hp), vs = [.ref s, .int 2, .int 4, .int 8, .int 2] ∧ Ok W0 G H ∧ StS K mg s g n G H ∧ n + 100 < bigN ∧
  ∀ v ws rs ss G1 H1, Ch W0 (Sg s g) G H G1 H1 → StS K mg s g (n + 100) G1 H1 → Drawn ws rs → HOk ws rs ss → (∀ s ∈ ss, StpOk ws rs s) → Rp K mg G1 v (.tup [.lst (ws.map .str), .lst (rs.map .str), .lst (ss.map stpD)]) → Q v H1
theorem sc_house : FnScope ["state", "most_wares", "most_rooms", "most_steps", "far", "wares", "rooms", "steps", "lap", "change", "ware"] ["state", "most_wares", "most_rooms", "most_steps", "far"] (defScope s_law_house) := ⟨rfl, rfl, rfl, by decide +kernel, rfl, by decide +kernel, by decide +kernel⟩
theorem c_house (t : T K mg) : Cal P w K mg base CX0 "_law_house" 4 ["state", "most_wares", "most_rooms", "most_steps", "far"] (spHouse K mg) := by
  obtain ⟨fd, Fd⟩ := d_law_house t
  refine mk_cal Fd (mk_fnR Fd sc_house (fun vs H Q E ⟨_, _, _, _, e, _⟩ => by rw [e]; rfl) ?_) (g_law_house t) (fun _ _ _ _ _ _ us hl => match us, hl with | [_, _, _, _, _], _ => rfl)
  intro cdv A outer s' H vs Q E hr h
  obtain ⟨s, g, n, G, rfl, ko, st, hn, q⟩ := h
  have nd := sc_house.nd
  have trs := st.tr
  refine q_asgE 5 nd (semE_names 0 (names := waresN) (m := 2) (c_shuf t) (c_draw t) hr ko st (by show n + 5 < bigN; omega) (en_lst (ea_cons ev_str (ea_cons ev_str (ea_cons ev_str (ea_cons ev_str (ea_cons ev_str ea_nil))))) (show 5 ≤ 10000 by decide)).fz1 (fun G1 H1 k1 => ev_v 1 (.int 2) (W := W0)) (by decide) (by decide) (by decide) names_ok.2.2.1 (fun x hx => name_ok (names_ok.1 x hx)) fun v5 ws G1 H1 c1 st1 r5 w1 w2 w3 w4 => ?_)
  refine q_asgE 6 nd (semE_names 0 (names := roomsN) (m := 4) (c_shuf t) (c_draw t) hr c1.ok st1 (by show n + 5 + 1 + 4 < bigN; omega) (en_lst (ea_cons ev_str (ea_cons ev_str (ea_cons ev_str (ea_cons ev_str ea_nil)))) (show 4 ≤ 10000 by decide)).fz1 (fun G1 H1 k1 => ev_v 2 (.int 4) (W := W0)) (by decide) (by decide) (by decide) names_ok.2.2.2.1 (fun x hx => name_ok (names_ok.2.1 x hx)) fun v6 rs G2 H2 c2 st2 r6 u1 u2 u3 u4 => ?_)
  have dr : Drawn ws rs := ⟨w2, u2, w1, u1, w3, by omega, u3, by omega⟩
  have st2 : StS K mg s g (n + 11) G2 H2 := st2
  refine q_asgN 7 nd c2.ok (en_lst ea_nil) fun pS ds G3 H3 c3 hpS oS e => ?_
  subst e
  have c03 := c1.trans (c2.trans c3.of0)
  have hS0 : H pS = none := (c1.trans c2).new_of hpS
  have nSs : pS ≠ s := fun z => trs.1 (by rw [← z]; exact hS0)
  have nSg : pS ≠ g := fun z => trs.2 (by rw [← z]; exact hS0)
  have st3 := st2.ch0 c3
  refine q_forR (W := W0) (fun x => Sg s g x ∨ x = pS) (C := fun L G4 H4 => 1 ≤ L.length ∧ L.length ≤ 8 ∧ Ch W0 (Sg s g) G3 H3 G4 H4 ∧ StS K mg s g (n + 12) G4 H4) (fun L i σ G' H' => ∃ (a b d : Option V) (ss : List Stp), σ = [some (.ref s), some (.int 2), some (.int 4), some (.int 8), some (.int 2), some v5, some v6, some (.ref pS), a, b, d] ∧ OwnL K mg W0 G' H' pS (ss.map stpD) ∧ ss.length = i ∧ (∀ s ∈ ss, StpOk ws rs s) ∧ StS K mg s g (n + 12 + 4 * i) G' H')
    (fun R kR => ?_) (fun L G4 H4 ⟨_, _, c4, st4⟩ => ⟨none, none, none, [], rfl, oS.ch c4 (fun z => z.elim nSs nSg), rfl, (fun s h => by cases h), st4⟩) ?_ ?_
  · refine semI_of (pi_range1 rfl (n_range t) (pa_cons pe_sem pa_nil rfl) rfl) (semE_add (semE_of pe_int (semE_callR (c_draw t) (hr.mono (by decide)) (semA_2 (semE_v 0 rfl ((ev_v 3 (.int 8)).s c3.ok fun v d G4 H4 c4 e4 r4 => ?_))))))
    subst e4
    rw [r4.int_v]
    refine ⟨s, g, n + 11, G4, 8, rfl, c4.ok, st3.ch0 c4, by omega, by decide, by decide, fun j G5 H5 c5 st5 j0 j1 => ?_⟩
    refine ⟨1, j, rfl, rfl, 1 + j, rfl, by omega, by omega, kR _ _ G5 H5 itd_r c5.ok ⟨?_, ?_, c4.of0.trans c5, st5⟩⟩
    · rw [List.length_map, List.length_range]; omega
    · rw [List.length_map, List.length_range]; omega
  · rintro L i dd σ1 G0 H0 G4 H4 ⟨l1, l8, c30, st30⟩ hdd c4 ⟨a, b, d, ss, rfl, oS, hsl, hss, st4⟩ v8 G5 H5 c5 r8
    have hi : i < L.length := (List.getElem?_eq_some_iff.mp hdd).1
    refine g_name 8 nd ?_
    have oS := oS.ch0 c5
    have st5 := st4.ch0 c5
    have ext25 : Ext G2 G5 := (c3.gg.trans c30.gg).trans (c4.gg.trans c5.gg)
    have r55 := r5.mono (c2.gg.trans ext25)
    have r65 := r6.mono ext25
    have tr5 := st5.tr
    refine q_asgE 9 nd (semE_of (pe_callTy call_tuple_of rfl (n_tuple t) (by decide +kernel) (pa_cons pe_sem pa_nil rfl) (by decide) (by decide) rfl rfl) ?_)
    refine semE_lcS (L := ws.map .str) (Sg s g) (fun i' acc G' H' => StS K mg s g (n + 12 + 4 * i + i') G' H' ∧ ∃ cs : List Int, acc = cs.map .int ∧ ∀ c ∈ cs, -2 ≤ c ∧ c ≤ 2) [("ware", 10)] nd (blkOk_by (N := ["state", "most_wares", "most_rooms", "most_steps", "far", "wares", "rooms", "steps", "lap", "change", "ware"]) (sc := defScope s_law_house) (by decide +kernel)) c5.ok (ei_list (ev_v 5 r55)) (by rw [List.length_map]; omega) (fun x hx => by rcases hx with e | e <;> rw [e]; exact tr5.1; exact tr5.2)
      (fun i' acc G1 H1 G2 H2 T c hT ⟨h1, h2⟩ => ⟨h1.ch c (fun z => hT s z (Or.inl rfl)) (fun z => hT g z (Or.inr rfl)), h2⟩) (fun G6 H6 c6 => ⟨st5.ch0 c6, [], rfl, fun c h => by cases h⟩) ?_ ?_
    · rintro i' d' acc G6 H6 v10 hd' c6 ⟨st6, cs, rfl, hcs⟩ r10
      refine ⟨(wipe _ _).set 10 (some v10), ?_, fun s0 H0 C cl fp => ⟨fun Q q => g_name 10 nd q, fun Q q => ?_⟩⟩
      · rfl
      refine semE_callR (c_pick t) (hr.mono (by decide)) (semA_2 (semE_v 0 rfl (Ev.s (W := W0) (G := G6) (en_lst (ds := [0, 0, 1, 0 - 1, 0 - 1, 2, 0 - 2].map D.int) (ea_cons ev_int (ea_cons ev_int (ea_cons ev_int (ea_cons (ev_sub ev_int ev_int) (ea_cons (ev_sub ev_int ev_int) (ea_cons (ev_v 4 (.int 2)) (ea_cons (ev_sub ev_int (ev_v 4 (.int 2))) ea_nil))))))) (show 7 ≤ 10000 by decide)).fz1 c6.ok fun v d G7 H7 c7 e7 r7 => ?_)))
      subst e7
      have hi' : i' < ws.length := by
        have := (List.getElem?_eq_some_iff.mp hd').1
        rwa [List.length_map] at this
      refine ⟨s, g, n + 12 + 4 * i + i', G7, v, _, _, rfl, c7.ok, st6.ch0 c7, by omega, r7, rfl, by simp, by decide, fun y dy G8 H8 c8 st8 hdy r8 => ?_⟩
      obtain ⟨z, hz, rfl⟩ := List.mem_map.mp hdy
      refine q y (.int z) G8 H8 (c7.of0.trans c8) r8 ⟨st8, cs ++ [z], by rw [List.map_append]; rfl, fun c hc => ?_⟩
      rcases List.mem_append.mp hc with hc | hc
      · exact hcs c hc
      · rw [List.mem_singleton.mp hc]
        have : ∀ z ∈ ([0, 0, 1, 0 - 1, 0 - 1, 2, 0 - 2] : List Int), -2 ≤ z ∧ z ≤ 2 := by decide
        exact this z hz
    · rintro p vs acc G6 H6 c6 hp gp mp hp6 rv hal ⟨st6, cs, rfl, hcs⟩
      rw [List.length_map, List.length_map] at hal
      rw [List.length_map] at st6
      refine ⟨p, vs, rfl, .inl ⟨SqL.of hp6, fun l hl => ?_⟩⟩
      have cn : Ch W0 N0 G6 H6 (upd G6 l (.tup vs)) (upd H6 l (.tup vs)) := Ch.new c6.ok hl
      have r9 : Rp K mg (upd G6 l (.tup vs)) (.ref l) (.tup (cs.map .int)) := .tup (SqT.of upd_same) (rv.mono cn.gg)
      have nSS : ¬ Sg s g pS := fun z => z.elim nSs nSg
      have oS := (oS.ch c6 nSS).ch0 cn
      have st6 := st6.ch0 cn
      have c56 := c6.trans cn.of0
      generalize hG7 : upd G6 l (.tup vs) = G7 at cn r9 oS st6 c56
      generalize hH7 : upd H6 l (.tup vs) = H7 at cn oS st6 c56
      have r67 := r65.mono c56.gg
      obtain ⟨us, hus, rus⟩ := oS.ex
      refine q_appE (i := 7) hus rfl (semE_of (pe_tup pa_sem) (semA_3 ?_))
      refine semE_callR (c_pick t) (hr.mono (by decide)) (semA_2 (semE_v 0 rfl (semE_v 6 rfl ⟨s, g, _, G7, v6, _, _, rfl, c56.ok, st6, by omega, r67, rfl, ?_, ?_, fun y1 d1 G8 H8 c8 st8 hd1 r8 => ?_⟩)))
      · intro z
        have : rs.length = 0 := by rw [← List.length_map (f := D.str), z]; rfl
        omega
      · rw [List.length_map]; omega
      refine semE_v 9 rfl ?_
      refine semE_callR (c_pick t) (hr.mono (by decide)) (semA_2 (semE_v 0 rfl (semE_v 6 rfl ⟨s, g, _, G8, v6, _, _, rfl, c8.ok, st8, by omega, r67.mono c8.gg, rfl, ?_, ?_, fun y2 d2 G9 H9 c9 st9 hd2 r9' => ?_⟩)))
      · intro z
        have : rs.length = 0 := by rw [← List.length_map (f := D.str), z]; rfl
        omega
      · rw [List.length_map]; omega
      obtain ⟨x1, hx1, rfl⟩ := List.mem_map.mp hd1
      obtain ⟨x2, hx2, rfl⟩ := List.mem_map.mp hd2
      refine ⟨by show 3 ≤ sizeLine; rw [sizeLine_eq]; decide, fun l2 hl2 => ?_⟩
      have cn2 : Ch W0 N0 G9 H9 (upd G9 l2 (.tup [y1, .ref l, y2])) (upd H9 l2 (.tup [y1, .ref l, y2])) := Ch.new c9.ok hl2
      have rt : Rp K mg (upd G9 l2 (.tup [y1, .ref l, y2])) (.ref l2) (stpD (x1, cs, x2)) := .tup (SqT.of upd_same) (.cons (r8.mono (c9.gg.trans cn2.gg)) (.cons (r9.mono (c8.gg.trans (c9.gg.trans cn2.gg))) (.cons (r9'.mono cn2.gg) .nil)))
      have oS := ((oS.ch c8 nSS).ch c9 nSS).ch0 cn2
      have st9 := st9.ch0 cn2
      obtain ⟨us2, hus2, rus2⟩ := oS.ex
      refine ⟨us2, hus2, by rw [rus2.length, List.length_map]; omega, ?_⟩
      have cw : Ch W0 (fun a => a = pS) (upd G9 l2 (.tup [y1, .ref l, y2])) (upd H9 l2 (.tup [y1, .ref l, y2])) (upd G9 l2 (.tup [y1, .ref l, y2])) (upd (upd H9 l2 (.tup [y1, .ref l, y2])) pS (.lst (us2 ++ [.ref l2]))) := Ch.write cn2.ok oS.g (fun z => z) rfl
      refine q_nil ⟨_, (c56.sub fun x hx => Or.inl hx).trans ((c8.sub fun x hx => Or.inl hx).trans ((c9.sub fun x hx => Or.inl hx).trans (cn2.of0.trans (cw.sub fun x hx => Or.inr hx)))), _, _, _, ss ++ [(x1, cs, x2)], rfl, ⟨oS.g, oS.m, _, upd_same, ?_⟩, by rw [List.length_append, hsl]; rfl, fun s hs => ?_, ?_⟩
      · rw [List.map_append]
        exact rus2.append (.cons rt .nil)
      · rcases List.mem_append.mp hs with hs | hs
        · exact hss s hs
        · rw [List.mem_singleton.mp hs]
          exact ⟨hx1, hx2, hal, hcs⟩
      · exact (st9.ch cw (fun z => nSs z.symm) (fun z => nSg z.symm)).le (by omega)
  · rintro L σ1 G0 H0 G4 H4 ⟨l1, l8, c30, st30⟩ c4 ⟨a, b, d, ss, rfl, oS, hsl, hss, st4⟩
    have call : Ch W0 (Sg s g) G H G4 H4 := ((c1.trans c2).trans (c3.of0.trans c30)).loc c4 fun x hx => by
      rcases hx with hx | hx
      · exact .inl hx
      · exact .inr (by rw [hx]; exact hS0)
    obtain ⟨G5, c5, r5', ext⟩ := oS.fz call hS0
    have e45 : Ext G2 G5 := ((c3.gg.trans c30.gg).trans c4.gg).trans ext
    have st5 : StS K mg s g (n + 100) G5 H4 := by
      have sx := st4.le (m := n + 100) (by omega)
      obtain ⟨c', r', u', gr', ce', f1, f2, f3, more⟩ := sx.ex
      exact ⟨c5.fr s trs.1 st.gs, c5.fr g trs.2 st.gg, sx.ne, c', r', u', gr', ce', f1, f2, f3.mono ext, more⟩
    refine q_ret c5.ok (ev_tup (ea_cons (ev_v 5 (r5.mono (c2.gg.trans e45))) (ea_cons (ev_v 6 (r6.mono e45)) (ea_cons (ev_v 7 r5') ea_nil)))) fun v d G6 H6 c6 e rv => ?_
    subst e
    exact q v ws rs ss G6 H6 (c5.trans c6.of0) (st5.ch0 c6) dr (dr.hok (by omega) (by omega) hss) hss rv
end Fx
set_option Elab.async false
set_option linter.all false
set_option maxRecDepth 100000
set_option maxHeartbeats 4000000
namespace Fx
open PySem L2 GX Hd
/-! ### data that may be shown -/
structure Nice (n k : Nat) (d : D) : Prop where
  py : d.isPy = true
  sh : d.py.showable = true
  lv : d.py.leavesShort 8 = true
  dp : d.py.depth ≤ k
  wt : d.py.weight ≤ n
theorem Nice.mono {n k m j : Nat} {d : D} (h : Nice n k d) (h1 : n ≤ m) (h2 : k ≤ j) : Nice m j d := ⟨h.py, h.sh, h.lv, Nat.le_trans h.dp h2, Nat.le_trans h.wt h1⟩
theorem nice_all {n k : Nat} : ∀ {l : List D}, (∀ d ∈ l, Nice n k d) → D.arePy l = true ∧ PyData.showableAll (D.pys l) = true ∧ PyData.leavesShortAll 8 (D.pys l) = true ∧ PyData.depthAll (D.pys l) ≤ k ∧ PyData.weightAll (D.pys l) ≤ l.length * (n + 1)
  | [], _ => ⟨rfl, rfl, rfl, Nat.zero_le _, by simp [D.pys, PyData.weightAll]⟩
  | d :: l, h => by
    have h1 := h d List.mem_cons_self
    obtain ⟨a, b, c, e, f⟩ := nice_all (l := l) fun x hx => h x (List.mem_cons_of_mem _ hx)
    refine ⟨by rw [D.arePy, h1.py, a]; rfl, by simp only [D.pys, PyData.showableAll, h1.sh, b]; rfl, by simp only [D.pys, PyData.leavesShortAll, h1.lv, c]; rfl, ?_, ?_⟩
    · have := h1.dp
      simp only [D.pys, PyData.depthAll]
      omega
    · have := h1.wt
      simp only [D.pys, PyData.weightAll, List.length_cons, Nat.add_mul]
      omega
theorem nice_tup {n k m : Nat} {l : List D} (h : ∀ d ∈ l, Nice n k d) (hm : l.length ≤ m) : Nice (m * (n + 1)) (k + 1) (.tup l) := by
  obtain ⟨a, b, c, e, f⟩ := nice_all h
  refine ⟨a, by simpa [D.py, PyData.showable] using b, by simpa [D.py, PyData.leavesShort] using c, by simp only [D.py, PyData.depth]; omega, ?_⟩
  have := Nat.mul_le_mul_right (n + 1) hm
  simp only [D.py, PyData.weight]
  omega
theorem nice_lst {n k m : Nat} {l : List D} (h : ∀ d ∈ l, Nice n k d) (hm : l.length ≤ m) : Nice (m * (n + 1)) (k + 1) (.lst l) := by
  obtain ⟨a, b, c, e, f⟩ := nice_all h
  refine ⟨a, by simpa [D.py, PyData.showable] using b, by simpa [D.py, PyData.leavesShort] using c, by simp only [D.py, PyData.depth]; omega, ?_⟩
  have := Nat.mul_le_mul_right (n + 1) hm
  simp only [D.py, PyData.weight]
  omega
theorem nice_str {x : Str} (h : PyData.strOk x = true) (hl : x.length ≤ 6) : Nice 6 0 (.str x) := by
  refine ⟨h, rfl, ?_, by simp [D.py, PyData.depth], ?_⟩
  · unfold PyData.strOk at h
    rw [← Array.all_toList, List.all_eq_true] at h
    simp only [D.py, PyData.leavesShort, List.all_eq_true, decide_eq_true_eq]
    intro c hc
    have := of_decide_eq_true (h c hc)
    omega
  · simp only [D.py, PyData.weight]
    exact hl
theorem nice_int {i : Nat} (h : i ≤ 9) : Nice 6 0 (.int i) := by
  have : i = 0 ∨ i = 1 ∨ i = 2 ∨ i = 3 ∨ i = 4 ∨ i = 5 ∨ i = 6 ∨ i = 7 ∨ i = 8 ∨ i = 9 := by omega
  rcases this with e | e | e | e | e | e | e | e | e | e <;> subst e <;> exact ⟨rfl, by decide, by decide +kernel, by decide, by decide⟩
theorem Nice.size {n k : Nat} {d : D} (h : Nice n k d) (hn : n ≤ 1000000) : d.py.shown.length ≤ sizeLine := by
  have := PyData.shown_le 8 (by decide) d.py h.lv
  have h2 := h.wt
  rw [sizeLine_eq]
  have := Nat.mul_le_mul_left 10 h2
  omega
/-! ### the law's own ways -/
def fupd (f : Str → List Str) (r : Str) (v : List Str) : Str → List Str := fun x => if x = r then v else f x
def w1 (p q : Str) (l : List Str) : List Str := if p ∈ l ∧ q ∉ l then l ++ [q] else l
def wRoom (p q : Str) (f : Str → List Str) (r : Str) : Str → List Str := fupd f r (w1 p q (f r))
def wStepF (rs : List Str) (f : Str → List Str) (s : Stp) : Str → List Str := rs.foldl (wRoom s.1 s.2.2) f
def wLap (rs : List Str) (ss : List Stp) (f : Str → List Str) (_ : Str) : Str → List Str := ss.foldl (wStepF rs) f
def waysF (rs : List Str) (ss : List Stp) : Str → List Str := rs.foldl (wLap rs ss) fun r => [r]
def dueStep (rs : List Str) (ss : List Stp) (wy : Str → List Str) (st : List RG × List Str) (room : Str) : List RG × List Str :=
  (if room ∉ st.2 ∧ (insF ss (List.range ss.length) (someF rs wy room)).isEmpty = false then st.1 ++ [(someF rs wy room, insF ss (List.range ss.length) (someF rs wy room))] else st.1, st.2 ++ someF rs wy room)
def dueF (rs : List Str) (ss : List Stp) : List RG := (rs.foldl (dueStep rs ss (waysF rs ss)) ([], [])).1
/-- the lists stay short -/
def WOk (rs : List Str) (f : Str → List Str) : Prop := ∀ r ∈ rs, (f r).Nodup ∧ ∀ x ∈ f r, x ∈ rs
theorem WOk.room {rs : List Str} {f : Str → List Str} {p q r : Str} (h : WOk rs f) (hq : q ∈ rs) (hr : r ∈ rs) : WOk rs (wRoom p q f r) := fun x hx => by
  unfold wRoom fupd
  split
  · obtain ⟨h1, h2⟩ := h r hr
    unfold w1
    split
    · rename_i c
      refine ⟨?_, fun y hy => ?_⟩
      · rw [List.nodup_append]
        exact ⟨h1, by simp, fun a ha b hb e => c.2 (by rw [← List.mem_singleton.mp hb, ← e]; exact ha)⟩
      · rcases List.mem_append.mp hy with hy | hy
        · exact h2 y hy
        · rw [List.mem_singleton.mp hy]; exact hq
    · exact ⟨h1, h2⟩
  · exact h x hx
theorem WOk.rooms {rs : List Str} {p q : Str} (hq : q ∈ rs) : ∀ (l : List Str) {f : Str → List Str}, (∀ r ∈ l, r ∈ rs) → WOk rs f → WOk rs (l.foldl (wRoom p q) f)
  | [], _, _, h => h
  | r :: l, f, hl, h => WOk.rooms hq l (fun x hx => hl x (List.mem_cons_of_mem _ hx)) (h.room hq (hl r List.mem_cons_self))
theorem WOk.steps {rs : List Str} : ∀ (l : List Stp) {f : Str → List Str}, (∀ s ∈ l, s.2.2 ∈ rs) → WOk rs f → WOk rs (l.foldl (wStepF rs) f)
  | [], _, _, h => h
  | s :: l, f, hl, h => WOk.steps l (fun x hx => hl x (List.mem_cons_of_mem _ hx)) (WOk.rooms (hl s List.mem_cons_self) rs (fun _ z => z) h)
theorem WOk.laps {rs : List Str} {ss : List Stp} (hs : ∀ s ∈ ss, s.2.2 ∈ rs) : ∀ (l : List Str) {f : Str → List Str}, WOk rs f → WOk rs (l.foldl (wLap rs ss) f)
  | [], _, h => h
  | s :: l, f, h => WOk.laps hs l (WOk.steps ss hs h)
theorem WOk.start (rs : List Str) : WOk rs fun r => [r] := fun r hr => ⟨by simp, fun x hx => by rw [List.mem_singleton.mp hx]; exact hr⟩
end Fx
set_option Elab.async false
set_option linter.all false
set_option maxRecDepth 100000
set_option maxHeartbeats 4000000
namespace Fx
open PySem L2 GX Hd
section
variable {X : Cx} {W : Wd} {e a b c it tg : Expr} {es ifs : List Expr} {σ : L2.St} {G H G1 H1 : Hp} {P P1 P2 : D → Prop} {pos p pos2 : Pos} {l : Addr} {ds L M : List D} {D0 : Ends} {rest body orelse : List Stmt} {st : Stmt}
theorem se_list (l : List Expr) (p : Pos) (r : List Expr) (env : Env) : starEach (.List l p :: r) env = (false, eval (.List l p) env) :: starEach r env := rfl
theorem se_tup (l : List Expr) (k : Nat) (p : Pos) (r : List Expr) (env : Env) : starEach (.Tuple l k p :: r) env = (false, eval (.Tuple l k p) env) :: starEach r env := rfl
theorem se_call (f : Expr) (l : List Expr) (k : List Keyword) (p : Pos) (r : List Expr) (env : Env) : starEach (.Call f l k p :: r) env = (false, eval (.Call f l k p) env) :: starEach r env := rfl
theorem se_bin (a : Expr) (o : Operator) (b : Expr) (p : Pos) (r : List Expr) (env : Env) : starEach (.BinOp a o b p :: r) env = (false, eval (.BinOp a o b p) env) :: starEach r env := rfl
theorem se_const (c : Const) (k : Nat) (p : Pos) (r : List Expr) (env : Env) : starEach (.Constant c k p :: r) env = (false, eval (.Constant c k p) env) :: starEach r env := rfl
theorem se_name (x : Str) (p : Pos) (r : List Expr) (env : Env) : starEach (.Name x p :: r) env = (false, eval (.Name x p) env) :: starEach r env := rfl
theorem ea_L {d : D} {l : List Expr} {p : Pos} (h : Ev X W (.List l p) σ G H (· = d)) (hr : EvA X W es σ G H (· = ds)) : EvA X W (.List l p :: es) σ G H (· = d :: ds) := ea_cons h hr rfl
theorem ea_T {d : D} {l : List Expr} {k : Nat} {p : Pos} (h : Ev X W (.Tuple l k p) σ G H (· = d)) (hr : EvA X W es σ G H (· = ds)) : EvA X W (.Tuple l k p :: es) σ G H (· = d :: ds) := ea_cons h hr rfl
theorem ea_S {x : Str} {k : Nat} {p : Pos} (hr : EvA X W es σ G H (· = ds)) : EvA X W (.Constant (.str x) k p :: es) σ G H (· = .str x :: ds) := ea_cons ev_str hr rfl
theorem ea_I {x : Int} {k : Nat} {p : Pos} (hr : EvA X W es σ G H (· = ds)) : EvA X W (.Constant (.int x) k p :: es) σ G H (· = .int x :: ds) := ea_cons ev_int hr rfl
theorem ea_B {d : D} {o : Operator} {p : Pos} (h : Ev X W (.BinOp a o b p) σ G H (· = d)) (hr : EvA X W es σ G H (· = ds)) : EvA X W (.BinOp a o b p :: es) σ G H (· = d :: ds) := ea_cons h hr rfl
theorem ea_C {d : D} {f : Expr} {l : List Expr} {k : List Keyword} {p : Pos} (h : Ev X W (.Call f l k p) σ G H (· = d)) (hr : EvA X W es σ G H (· = ds)) : EvA X W (.Call f l k p :: es) σ G H (· = d :: ds) := ea_cons h hr rfl
/-- a, b, .. = e by what e does -/
theorem q_asgTE {kk : Nat} (h : semE X e σ H fun v H1 => semG X (.Tuple es kk p) v σ H1 fun σ2 H2 => semB X rest D0 σ2 H2)
    (hs : swapsWithSole [.Tuple es kk p] e pos.line X.env = pure false := by rfl) (hw : swappedStores [.Tuple es kk p] e X.env = pure none := by rfl) (h1 : (assignEach [.Tuple es kk p] X.env).map (·.2) = [assign (.Tuple es kk p) X.env] := by rfl) : semB X (.Assign [.Tuple es kk p] e pos :: rest) D0 σ H :=
  q_cons (ps_asg pe_sem pg_sem hs hw h1) h
/-- x, y = [..], data -/
theorem q_parNE {x y : Str} {px py pt pt2 : Pos} {kt k2 : Nat} {PL1 : List D → Prop} (i j : Nat) (nd : X.N.Nodup) (k : Ok W G H) (ha : EvN X W a σ G H PL1) (hb : Ev X W b σ G H P2)
    (cont : ∀ p1 v2 d1 d2 G1 H1, Ch W N0 G H G1 H1 → PL1 d1 → P2 d2 → OwnL X.K X.mg W G1 H1 p1 d1 → Rp X.K X.mg G1 v2 d2 → H p1 = none → semB X rest D0 ((σ.set i (some (.ref p1))).set j (some v2)) H1)
    (hij : i ≠ j := by decide) (hc : X.calm = true := by rfl) (hi : X.N[i]? = some x := by rfl) (hj : X.N[j]? = some y := by rfl) (hx : X.env.scope.names.lookup x = some .local := by rfl) (hy : X.env.scope.names.lookup y = some .local := by rfl)
    (hw : swappedStores [.Tuple [.Name x px, .Name y py] kt pt] (.Tuple [a, b] k2 pt2) X.env = pure (some [x, y]) := by rfl) (hs : swapsWithSole [.Tuple [.Name x px, .Name y py] kt pt] (.Tuple [a, b] k2 pt2) pos.line X.env = pure false := by rfl)
    (he : starEach [a, b] X.env = (false, eval a X.env) :: starEach [b] X.env := by rfl) (he2 : starEach [b] X.env = (false, eval b X.env) :: starEach [] X.env := by rfl) : semB X (.Assign [.Tuple [.Name x px, .Name y py] kt pt] (.Tuple [a, b] k2 pt2) pos :: rest) D0 σ H := by
  refine q_parE i j nd (ha G H (Ch.refl k) _ fun p1 vs d1 G1 H1 c1 n1 n2 n3 n4 n5 n6 => ?_) hij hc hi hj hx hy hw hs he he2
  refine hb G1 H1 c1 _ fun v2 d2 G2 H2 c2 m1 m2 => ?_
  have o1 : OwnL X.K X.mg W G1 H1 p1 d1 := ⟨n2, n3, vs, n4, n5⟩
  exact cont p1 v2 d1 d2 G2 H2 (c1.trans c2) n6 m1 (o1.ch0 c2) m2 n1
/-- _law_is(a, b), both the same data -/
theorem ev_is {x1 x2 : Str} {k : Nat} {d : D} {x : Str} {f : Addr} {fd : FuncData} {n j : Nat} (F : FnG X.prog X.w X.K X.mg X.base CX0 k f fd [x1, x2] (spIs X.K X.mg)) (hm : X.mg x = some (.ref f)) (hk : PySem.W.keepIn X.K (.ref f) = true) (hb : Binds X.K fd [x1, x2] []) (gA : X.A.guards = some []) (hr : Room k X.A)
    (ha : Ev X W a σ G H (· = d)) (hb' : Ev X W b σ G H (· = d)) (hd : (seq? d).isSome = true) (hn : Nice n j d) (h1 : n ≤ 1000000) (h2 : j ≤ 64) (hg : Gl X x := by rfl) (hdb : (x == ("__debug__" : Str)) = false := by decide)
    (he : starEach [a, b] X.env = (false, eval a X.env) :: starEach [b] X.env := by rfl) (he2 : starEach [b] X.env = (false, eval b X.env) :: starEach [] X.env := by rfl) (hpl : (backTo pos (starEach [b] X.env)).any (·.1) = false := by rfl) : Ev X W (.Call (.Name x p) [a, b] [] pos) σ G H (· = .bl true) := fun G1 H1 c Q q =>
  semE_of (pe_callG F gA hr hg hm hk hb pass0 (pa_cons pe_sem (pa_cons pe_sem pa_nil he2) he) hdb he hpl) (ha G1 H1 c _ fun v d1 G2 H2 c2 e1 r1 => hb' G2 H2 (c.trans c2) _ fun u d2 G3 H3 c3 e2 r2 => by
    subst e1; subst e2
    exact ⟨G3, v, u, d2, rfl, c3.ok.down, r1.mono c3.gg, r2, hd, hn.py, hn.sh, Nat.le_trans hn.dp h2, hn.size h1, fun G4 H4 c4 => q _ _ G4 H4 ((c2.trans c3).trans (Ch.up c3.ok c4)) rfl (.bl true)⟩)
end
/-! ### the dict of ways -/
def WI (rs : List Str) (f : Str → List Str) (ED : List (Key × D)) : Prop := ∀ r ∈ rs, dGet ED (.inr r) = some (.lst ((f r).map .str))
theorem dPut_len {l : List (Key × D)} {k : Key} {v d : D} (h : dGet l k = some d) : (dPut l k v).length = l.length := by
  unfold dPut
  rw [if_pos, List.length_map]
  unfold dGet at h
  obtain ⟨q, hq, _⟩ := Option.map_eq_some_iff.mp h
  have z : (fun q : Key × D => decide (q.1 = k)) q = true := List.find?_some (p := fun q : Key × D => decide (q.1 = k)) hq
  exact List.any_eq_true.mpr ⟨q, List.mem_of_find?_eq_some hq, z⟩
theorem WI.put {rs : List Str} {f : Str → List Str} {ED : List (Key × D)} {r : Str} {l : List Str} (h : WI rs f ED) : WI rs (fupd f r l) (dPut ED (.inr r) (.lst (l.map .str))) := fun x hx => by
  rw [dGet_put]
  unfold fupd
  by_cases e : r = x
  · subst e; rw [if_pos rfl, if_pos rfl]
  · rw [if_neg (fun z => e (Sum.inr.inj z)), if_neg (fun z => e z.symm)]
    exact h x hx
theorem fupd_same (f : Str → List Str) (r : Str) : fupd f r (f r) = f := by
  funext x
  unfold fupd
  split
  · rename_i e; rw [e]
  · rfl
theorem foldl_take {α β : Type} (f : β → α → β) (b : β) (l : List α) (i : Nat) (a : α) (h : l[i]? = some a) : (l.take (i + 1)).foldl f b = f ((l.take i).foldl f b) a := by
  rw [List.take_add_one, h]
  show List.foldl f b (List.take i l ++ [a]) = _
  rw [List.foldl_append]; rfl
end Fx
set_option Elab.async false
set_option linter.all false
set_option maxRecDepth 100000
set_option maxHeartbeats 8000000
namespace Fx
open PySem L2 GX Hd
variable {P : Program} {w : World} {K : PySem.W.Frag} {mg : Str → Option Value} {base : Heap}
/-- the plain law: what the program tells is what the law asks -/
def Plain : Prop := ∀ (ws rs : List Str) (ss : List Stp), rs.Nodup → (∀ s ∈ ss, StpOk ws rs s) → ringsF rs ss (List.range ss.length) = dueF rs ss
abbrev lawN : List Str := ["script", "state", "turn", "wares", "rooms", "steps", "ways", "lap", "begin", "change", "other", "room", "due", "done", "some", "at", "step", "inside", "house"]
def spLaw (K : PySem.W.Frag) : Sp := fun vs H Q _ => ∃ (a : Addr) (ns : List Int), vs = [.ref a] ∧ SqL K H a (ns.map V.int) ∧ ns.length ≤ 63 ∧ ∀ H', Q (.bl true) H'
theorem sc_law : FnScope lawN ["script"] (defScope s_law) := ⟨rfl, rfl, rfl, by decide +kernel, rfl, by decide +kernel, by decide +kernel⟩
theorem last_ok : ringsF ["p", "q"] [("p", [-1], "p"), ("p", [0], "q")] (List.range 2) = ([(((["p"] : List Str), ([0] : List Nat)) : RG)] : List RG) := by decide +kernel
theorem hok_last : HOk ["x"] ["p", "q"] [("p", [-1], "p"), ("p", [0], "q")] := ⟨by decide +kernel, by decide +kernel, by decide, by decide, by decide +kernel, fun x hx => six_le _ (by revert x hx; decide +kernel), fun x hx => six_le _ (by revert x hx; decide +kernel), fun s hs => ⟨six_le _ (by revert s hs; decide +kernel), six_le _ (by revert s hs; decide +kernel), by revert s hs; decide +kernel⟩⟩
theorem rg_nice {rs : List Str} {l : List RG} (h : ∀ r ∈ l, (∀ x ∈ r.1, PyData.strOk x = true ∧ x.length ≤ 6) ∧ r.1.length ≤ 4 ∧ (∀ i ∈ r.2, i ≤ 9) ∧ r.2.length ≤ 9) (hl : l.length ≤ 10) : Nice 2000 10 (.lst (l.map rgD)) := by
  refine (nice_lst (n := 150) (k := 2) (m := 10) (fun d hd => ?_) (by rw [List.length_map]; exact hl)).mono (by decide) (by decide)
  obtain ⟨r, hr, rfl⟩ := List.mem_map.mp hd
  obtain ⟨h1, h2, h3, h4⟩ := h r hr
  have n1 : Nice 70 1 (.tup (r.1.map .str)) := (nice_tup (n := 6) (k := 0) (m := 4) (fun d hd => by
    obtain ⟨x, hx, rfl⟩ := List.mem_map.mp hd
    exact nice_str (h1 x hx).1 (h1 x hx).2) (by rw [List.length_map]; exact h2)).mono (by decide) (by decide)
  have n2 : Nice 70 1 (.tup (r.2.map fun n : Nat => .int n)) := (nice_tup (n := 6) (k := 0) (m := 9) (fun d hd => by
    obtain ⟨x, hx, rfl⟩ := List.mem_map.mp hd
    exact nice_int (h3 x hx)) (by rw [List.length_map]; exact h4)).mono (by decide) (by decide)
  refine (nice_tup (n := 70) (k := 1) (m := 2) (l := [.tup (r.1.map .str), .tup (r.2.map fun n : Nat => .int n)]) (fun d hd => ?_) (Nat.le_refl 2)).mono (by decide) (by decide)
  rcases List.mem_cons.mp hd with e | hd
  · rw [e]; exact n1
  · rw [List.mem_singleton.mp hd]; exact n2
theorem due_nice {ws rs : List Str} {ss : List Stp} (d : Drawn ws rs) (h8 : ss.length ≤ 8) : Nice 2000 10 (.lst ((dueF rs ss).map rgD)) := by
  have hr4 := d.r2
  have key : ∀ (l : List Str) (st : List RG × List Str), (∀ r ∈ st.1, (∀ x ∈ r.1, PyData.strOk x = true ∧ x.length ≤ 6) ∧ r.1.length ≤ 4 ∧ (∀ i ∈ r.2, i ≤ 9) ∧ r.2.length ≤ 9) →
      (∀ r ∈ (l.foldl (dueStep rs ss (waysF rs ss)) st).1, (∀ x ∈ r.1, PyData.strOk x = true ∧ x.length ≤ 6) ∧ r.1.length ≤ 4 ∧ (∀ i ∈ r.2, i ≤ 9) ∧ r.2.length ≤ 9) ∧ (l.foldl (dueStep rs ss (waysF rs ss)) st).1.length ≤ st.1.length + l.length := by
    intro l
    induction l with
    | nil => intro st h; exact ⟨h, by simp⟩
    | cons x l ih =>
      intro st h
      have e : ∀ r ∈ (dueStep rs ss (waysF rs ss) st x).1, (∀ x ∈ r.1, PyData.strOk x = true ∧ x.length ≤ 6) ∧ r.1.length ≤ 4 ∧ (∀ i ∈ r.2, i ≤ 9) ∧ r.2.length ≤ 9 := by
        intro r hr
        unfold dueStep at hr
        dsimp only at hr
        split at hr
        · rcases List.mem_append.mp hr with hr | hr
          · exact h r hr
          · rw [List.mem_singleton.mp hr]
            refine ⟨fun y hy => ?_, ?_, fun i hi => ?_, ?_⟩
            · have := d.r y (List.mem_filter.mp hy).1
              exact ⟨name_ok (names_ok.2.1 y this), names_ok.2.2.2.2.2 y this⟩
            · exact Nat.le_trans (List.length_filter_le _ _) hr4
            · have := List.mem_range.mp (List.mem_filter.mp hi).1
              omega
            · have := List.length_filter_le (fun a => decide ((stpAt ss a).1 ∈ someF rs (waysF rs ss) x) && decide ((stpAt ss a).2.2 ∈ someF rs (waysF rs ss) x)) (List.range ss.length)
              rw [List.length_range] at this
              exact Nat.le_trans this (by omega)
        · exact h r hr
      obtain ⟨h1, h2⟩ := ih _ e
      refine ⟨h1, ?_⟩
      have : (dueStep rs ss (waysF rs ss) st x).1.length ≤ st.1.length + 1 := by
        unfold dueStep
        dsimp only
        split <;> simp
      simp only [List.foldl_cons, List.length_cons] at h2 ⊢
      omega
  obtain ⟨h1, h2⟩ := key rs ([], []) (fun r hr => by cases hr)
  exact rg_nice (rs := rs) h1 (by simp only [List.length_nil] at h2; unfold dueF; omega)
end Fx
set_option Elab.async false
set_option linter.all false
set_option maxRecDepth 100000
set_option maxHeartbeats 8000000
namespace Fx
open PySem L2 GX Hd
variable {P : Program} {w : World} {K : PySem.W.Frag} {mg : Str → Option Value} {base : Heap}
def lastD : D := .lst [.tup [.tup [.str "p"], .tup [.int 0]]]
def lastS : List Stp := [("p", [0 - 1], "p"), ("p", [0], "q")]
theorem lastS_eq : lastS = ([("p", [-1], "p"), ("p", [0], "q")] : List Stp) := rfl
theorem last_init : F_init [.lst [.str "x"], .lst [.str "p", .str "q"], .lst [.tup [.str "p", .tup [.int (0 - 1)], .str "p"], .tup [.str "p", .tup [.int 0], .str "q"]]] (fldsH ["x"] ["p", "q"] lastS) :=
  ⟨["x"], ["p", "q"], lastS, rfl, by rw [lastS_eq]; exact hok_last, rfl⟩
theorem last_rings : F_rings [.ins "House" (fldsH ["x"] ["p", "q"] lastS)] lastD :=
  ⟨["x"], ["p", "q"], lastS, rfl, by rw [lastS_eq]; exact hok_last, by
    have e : List.range lastS.length = List.range 2 := rfl
    rw [e, lastS_eq, last_ok]
    rfl⟩
theorem last_nice : Nice 2000 10 lastD := rg_nice (rs := []) (l := [(((["p"] : List Str), ([0] : List Nat)) : RG)]) (by decide +kernel) (by decide)
section
variable {X : Cx} {W : Wd} {σ : L2.St} {G H : Hp}
theorem b_sub {k5 k6 : Nat} {p10 p11 p12 : Pos} : Ev X W (.BinOp (.Constant (.int 0) k5 p10) .Sub (.Constant (.int 1) k6 p11) p12) σ G H (· = .int (0 - 1)) := by
  have h := ev_sub (X := X) (W := W) (σ := σ) (G := G) (H := H) (a := .Constant (.int 0) k5 p10) (b := .Constant (.int 1) k6 p11) (pos := p12) (i := 0) (j := 1) ev_int ev_int
  exact h
/-- e stands without a star -/
abbrev NoStar (e : Expr) : Prop := ∀ (r : List Expr) (env : Env), starEach (e :: r) env = (false, eval e env) :: starEach r env
theorem b_three {e : Expr} {d : D} {x y : Str} {k4 k7 k8 k9 : Nat} {p9 p13 p14 p15 : Pos} (h1 : Ev X W e σ G H (· = d)) (hs : NoStar e) : Ev X W (.Tuple [.Constant (.str x) k4 p9, .Tuple [e] k7 p13, .Constant (.str y) k8 p14] k9 p15) σ G H (· = .tup [.str x, .tup [d], .str y]) :=
  ev_tup (ea_S (ea_T (ev_tup (ea_cons h1 ea_nil (hs _ _))) (ea_S ea_nil)))
theorem b_pair {a b : Expr} {d e : D} {p : Pos} (h1 : Ev X W a σ G H (· = d)) (h2 : Ev X W b σ G H (· = e)) (s1 : NoStar a) (s2 : NoStar b) : Ev X W (.List [a, b] p) σ G H (· = .lst [d, e]) := EvN.fz1 (en_lst (ea_cons h1 (ea_cons h2 ea_nil (s2 _ _)) (s1 _ _)))
theorem b_one {a : Expr} {d : D} {p : Pos} (h1 : Ev X W a σ G H (· = d)) (s1 : NoStar a) : Ev X W (.List [a] p) σ G H (· = .lst [d]) := EvN.fz1 (en_lst (ea_cons h1 ea_nil (s1 _ _)))
theorem b_tt {a b : Expr} {d e : D} {k1 k2 k3 : Nat} {p1 p2 p3 : Pos} (h1 : Ev X W a σ G H (· = d)) (h2 : Ev X W b σ G H (· = e)) (s1 : NoStar a) (s2 : NoStar b) : Ev X W (.Tuple [.Tuple [a] k1 p1, .Tuple [b] k2 p2] k3 p3) σ G H (· = .tup [.tup [d], .tup [e]]) :=
  ev_tup (ea_T (ev_tup (ea_cons h1 ea_nil (s1 _ _))) (ea_T (ev_tup (ea_cons h2 ea_nil (s2 _ _))) ea_nil))
theorem last_gen {e1 e2 e3 e4 : Expr} {f : Addr} {fd : FuncData} {k : Nat} {p1 p2 p3 p22 p23 p30 : Pos} {d1 d2 d3 : D} {fs : List (Str × D)} {dl : D}
    (hm : X.mg "_law_is" = some (.ref f)) (F : FnG X.prog X.w X.K X.mg X.base CX0 k f fd ["found", "due"] (spIs X.K X.mg)) (hk : PySem.W.keepIn X.K (.ref f) = true) (hb : Binds X.K fd ["found", "due"] []) (gA : X.A.guards = some []) (hr : Room k X.A)
    (cr : CalD X.prog X.w X.K X.mg X.base "rings" 3 ["house"] F_rings) {C : Addr} (ch : CalI X.prog X.w X.K X.mg X.base "House" C 3 ["self", "wares", "rooms", "steps"] F_init) (hr3 : Room 3 X.A) (hr4 : Room 4 X.A)
    (h1 : Ev X W e1 σ G H (· = d1)) (h2 : Ev X W e2 σ G H (· = d2)) (h3 : Ev X W e3 σ G H (· = d3)) (h4 : Ev X W e4 σ G H (· = dl)) (s1 : NoStar e1) (s2 : NoStar e2) (s3 : NoStar e3) (s4 : NoStar e4)
    (hi : F_init [d1, d2, d3] fs) (hR : F_rings [.ins "House" fs] dl) (hl : (seq? dl).isSome = true) (hn : Nice 2000 10 dl) (g1 : Gl X "_law_is" := by rfl) (g2 : Gl X "rings" := by rfl) (g3 : Gl X "House" := by rfl) :
    Ev X W (.Call (.Name "_law_is" p1) [.Call (.Name "rings" p2) [.Call (.Name "House" p3) [e1, e2, e3] [] p22] [] p23, e4] [] p30) σ G H (· = .bl true) := by
  have m1 : Ev X W (.Call (.Name "House" p3) [e1, e2, e3] [] p22) σ G H (· = .ins "House" fs) := ev_make ch hr4 (ea_cons h1 (ea_cons h2 (ea_cons h3 ea_nil (s3 _ _)) (s2 _ _)) (s1 _ _)) hi g3 (by decide) (s1 _ _) (by rw [s2, s3]; rfl)
  have m2 : Ev X W (.Call (.Name "rings" p2) [.Call (.Name "House" p3) [e1, e2, e3] [] p22] [] p23) σ G H (· = dl) := ev_call cr hr3 (ea_C m1 ea_nil) hR g2 (by decide) (se_call _ _ _ _ _ _)
  exact ev_is F hm hk hb gA hr m2 h4 hl hn (by decide) (by decide) g1 (by decide) (se_call _ _ _ _ _ _) (s4 _ _) (by rw [s4]; rfl)
end
/-- the ways' dict stands for f -/
def WP (K : PySem.W.Frag) (mg : Str → Option Value) (rs : List Str) (pw : Addr) (G H : Hp) (f : Str → List Str) : Prop := ∃ ED, OwnK K mg W0 G H pw ED ∧ WI rs f ED ∧ ED.length ≤ 4
theorem WP.ch {K : PySem.W.Frag} {mg : Str → Option Value} {rs : List Str} {pw : Addr} {G H G1 H1 : Hp} {f : Str → List Str} {S : Addr → Prop} (h : WP K mg rs pw G H f) (c : Ch W0 S G H G1 H1) (n : ¬ S pw) : WP K mg rs pw G1 H1 f :=
  let ⟨ED, o, w, l⟩ := h
  ⟨ED, o.ch c n, w, l⟩
theorem WP.ch0 {K : PySem.W.Frag} {mg : Str → Option Value} {rs : List Str} {pw : Addr} {G H G1 H1 : Hp} {f : Str → List Str} (h : WP K mg rs pw G H f) (c : Ch W0 N0 G H G1 H1) : WP K mg rs pw G1 H1 f := h.ch c fun z => z
theorem len4 {rs : List Str} {f : Str → List Str} {r : Str} (h : WOk rs f) (hr : r ∈ rs) (h4 : rs.length ≤ 4) : (f r).length ≤ 4 := Nat.le_trans (nodup_le _ _ (h r hr).1 (h r hr).2) h4
theorem enum_eq (ss : List Stp) : (ss.map stpD).zipIdx.map (fun q => D.tup [.int (q.2 : Nat), q.1]) = (List.range ss.length).map fun i : Nat => D.tup [.int i, stpD (stpAt ss i)] := by
  apply List.ext_getElem?
  intro i
  rw [List.getElem?_map, List.getElem?_map, List.getElem?_zipIdx, List.getElem?_map]
  by_cases h : i < ss.length
  · rw [stpAt_get h, List.getElem?_range h]
    simp
  · rw [List.getElem?_eq_none (by omega), List.getElem?_eq_none (by rw [List.length_range]; omega)]
    rfl
end Fx
set_option Elab.async false
set_option linter.all false
set_option maxRecDepth 100000
set_option maxHeartbeats 8000000
namespace Fx
open PySem L2 GX Hd
variable {P : Program} {w : World} {K : PySem.W.Frag} {mg : Str → Option Value} {base : Heap}
theorem g_law (t : T K mg) (plain : Plain) : ∃ fd, FunD K "law" "law" (defArgs s_law) (defBody s_law) (defScope s_law) [] [] (He.ga K "law") fd ∧ FnG P w K mg base CX0 6 (He.ga K "law") fd ["script"] (spLaw K) := by
  obtain ⟨fd, Fd⟩ := d_law t
  refine ⟨fd, Fd, mk_fnG Fd sc_law (fun vs H Q E ⟨_, _, e, _⟩ => by rw [e]; rfl) ?_⟩
  intro cdv A outer s' H vs Q E gA hr h
  obtain ⟨a, ns, rfl, hsq, hl, q⟩ := h
  have nd := sc_law.nd
  have hu : (aD "law" (defScope s_law) s' (He.ga K "law") cdv A).units + 64 < cLine := by have := hr.un; omega
  have hu1 : (aD "law" (defScope s_law) s' (He.ga K "law") cdv A).units + 1 < cLine := by omega
  obtain ⟨fdI, FdI, FnI⟩ := f_is (P := P) (w := w) (base := base) t
  have bI : Binds K fdI ["found", "due"] [] := FdI.bindsN fun _ _ _ _ _ _ us hl => match us, hl with | [_, _], _ => rfl
  have ko : Ok W0 H H := ⟨Ext.refl H, trivial, fun _ h => h.elim⟩
  have r0 : Rp K mg H (.ref a) (.lst (ns.map .int)) := .lst hsq (RpA.ints ns)
  refine q_asgE 1 nd (semE_callR (c_begun t) (hr.mono (by decide)) (semA_1 (semE_v 0 rfl ⟨_, H, ns, rfl, ko, r0, hl, fun s g G1 H1 c1 st1 hs0 hg0 => ?_⟩)))
  have hns : (ns.map D.int).length = ns.length := List.length_map _
  obtain ⟨NN, hNN, n1, n2⟩ : ∃ NN : Int, NN = (6 : Int) + (if (6 : Int) < (ns.length : Int) then (6 : Int) else (ns.length : Int)) ∧ 0 ≤ NN ∧ NN ≤ 12 := ⟨_, rfl, by split <;> omega, by split <;> omega⟩
  refine q_for (Sg s g) (fun L i σ G' H' => (∃ (b2 b3 b4 b5 b6 b7 b8 b9 b10 b11 b12 b13 b14 b15 b16 b17 b18 : Option V), σ = [some (.ref a), some (.ref s), b2, b3, b4, b5, b6, b7, b8, b9, b10, b11, b12, b13, b14, b15, b16, b17, b18]) ∧ StS K mg s g (100 * i) G' H' ∧ L.length ≤ 12) c1.ok
    (EvI.toP (L := (List.range NN.toNat).map fun i => .int (i : Nat)) ?_) (fun L G2 H2 c2 e => ⟨⟨_, _, _, _, _, _, _, _, _, _, _, _, _, _, _, _, _, rfl⟩, st1.ch0 c2, ?_⟩) ?_ ?_
  · refine ei_range (n_range t) (Ev.imp (ev_add ev_int (ev_min2 (n_min t) rfl (ev_len (n_len t) (ev_v 0 (r0.mono c1.gg))) ev_int)) fun d e => ?_) (by omega) (by omega)
    rw [e, hns, hNN]
  · rw [e, List.length_map, List.length_range]
    omega
  · rintro L i dd σ1 G2 H2 rfl hdd c2 ⟨⟨b2, b3, b4, b5, b6, b7, b8, b9, b10, b11, b12, b13, b14, b15, b16, b17, b18, rfl⟩, st2, hL⟩ v2 G3 H3 c3 r3
    have hi := (List.getElem?_eq_some_iff.mp hdd).1
    refine g_name 2 nd ?_
    have st3 := st2.ch0 c3
    have tr3 := st3.tr
    refine q_asgTE (semE_callR (c_house t) (hr.mono (by decide)) (semA_of (pa_cons pe_sem (pa_cons pe_sem (pa_cons pe_sem (pa_cons pe_sem (pa_cons pe_sem pa_nil))))) (semE_v 1 rfl (semE_of pe_int (semE_of pe_int (semE_of pe_int (semE_of pe_int ?_)))))))
    refine ⟨s, g, 100 * i, G3, rfl, c3.ok, st3, by show 100 * i + 100 < 1000000000; omega, fun v ws rs ss G4 H4 c4 st4 dr hok hss r4 => ?_⟩
    refine g_tup (is := [3, 4, 5]) nd rfl c4.ok r4 (.cons rfl (Or.inl rfl) (.inr rfl) rfl (.cons rfl (Or.inl rfl) (.inr rfl) rfl (.cons rfl (Or.inl rfl) (.inr rfl) rfl .nil))) rfl fun vs rvs => ?_
    obtain ⟨vw, vr, vs, rfl, rw, rr, rs'⟩ := RpA.three rvs
    have hr4 := dr.r2
    have h8 := hok.s2
    -- the ways
    refine q_asgD 6 nd c4.ok (ed_pairs (kvs := rs.map fun r => (Sum.inr r, .lst [.str r])) (n_dict t) ((en_lc (f := fun d => match d with | .str x => .tup [.str x, .lst [.str x]] | _ => .non) [("room", 11)] nd (blkOk_by (N := lawN) (sc := defScope s_law) (by decide +kernel)) (ei_list (ev_v 4 rr)) (by rw [List.length_map]; omega) (fun j d v G5 H5 hd c5 rv => lc1' 11 nd (fun s0 H0 C cl fp => ?_) c5.ok)).fz1.imp fun d e => ?_)) fun pw ED G5 H5 c5 hpw ow e => ?_
    · rw [List.getElem?_map] at hd
      obtain ⟨x, _, rfl⟩ := Option.map_eq_some_iff.mp hd
      have e := rv.str_v
      subst e
      exact ev_tup (ea_cons (ev_v 11 (.str x)) (ea_cons (en_lst (ea_cons (ev_v 11 (.str x)) ea_nil)).fz1 ea_nil))
    · rw [e, filter_true, List.map_map, List.map_map]
      rfl
    have wi0 : WI rs (fun r => [r]) ED ∧ ED.length ≤ 4 := by
      rw [e]
      refine ⟨fun r hr => dGet_merge (kf := fun x => Sum.inr x) (vf := fun x => D.lst [.str x]) rs (fun y _ e => by cases e; rfl) ⟨r, hr, rfl⟩, ?_⟩
      have := dMerge_len (rs.map fun r => ((Sum.inr r : Key), D.lst [.str r])) []
      rw [List.length_map, List.length_nil] at this
      unfold dMerge
      omega
    have ns' : pw ≠ s := fun z => st4.tr.1 (by rw [← z]; exact hpw)
    have ng' : pw ≠ g := fun z => st4.tr.2 (by rw [← z]; exact hpw)
    have st5 := st4.ch0 c5
    have hs8 : ∀ x ∈ ss, x.2.2 ∈ rs := fun x hx => (hss x hx).2.1
    have cc35 := c4.trans c5.of0
    have hpw3 : H3 pw = none := c4.new_of hpw
    have hwp : WP K mg rs pw G5 H5 (fun r => [r]) := ⟨ED, ow, wi0⟩
    have nS : ¬ Sg s g pw := fun z => z.elim ns' ng'
    refine q_for (fun x => x = pw) (fun L i σ G' H' => (∃ (b7 b8 b9 b10 b11 : Option V), σ = [some (.ref a), some (.ref s), some v2, some vw, some vr, some vs, some (.ref pw), b7, b8, b9, b10, b11, b12, b13, b14, b15, b16, b17, b18]) ∧ WP K mg rs pw G' H' ((rs.take i).foldl (wLap rs ss) fun r => [r])) c5.ok
      (EvI.toP (ei_list (ev_v 4 (rr.mono c5.gg)))) (fun L G6 H6 c6 e => ⟨⟨_, _, _, _, _, rfl⟩, hwp.ch0 c6⟩) ?_ ?_
    · rintro L i1 dd σ1 G6 H6 rfl hdd c6 ⟨⟨b7, b8, b9, b10, b11, rfl⟩, hwp6⟩ v7 G7 H7 c7 r7
      rw [List.getElem?_map] at hdd
      obtain ⟨lap, hlap, rfl⟩ := Option.map_eq_some_iff.mp hdd
      have hf0 : WOk rs ((rs.take i1).foldl (wLap rs ss) fun r => [r]) := WOk.laps hs8 _ (WOk.start rs)
      have hfold := foldl_take (wLap rs ss) (fun r => [r]) rs i1 lap hlap
      generalize (rs.take i1).foldl (wLap rs ss) (fun r => [r]) = f0 at hwp6 hf0 hfold
      refine g_name 7 nd ?_
      have g57 := c6.gg.trans c7.gg
      have hwp7 := hwp6.ch0 c7
      refine q_for (fun x => x = pw) (fun L i σ G' H' => (∃ (b8 b9 b10 b11 : Option V), σ = [some (.ref a), some (.ref s), some v2, some vw, some vr, some vs, some (.ref pw), some v7, b8, b9, b10, b11, b12, b13, b14, b15, b16, b17, b18]) ∧ WP K mg rs pw G' H' ((ss.take i).foldl (wStepF rs) f0)) c7.ok
        (EvI.toP (ei_list (ev_v 5 (rs'.mono (c5.gg.trans g57))))) (fun L G8 H8 c8 e => ⟨⟨_, _, _, _, rfl⟩, hwp7.ch0 c8⟩) ?_ ?_
      · rintro L i2 dd σ1 G8 H8 rfl hdd c8 ⟨⟨b8, b9, b10, b11, rfl⟩, hwp8⟩ v8 G9 H9 c9 r9
        rw [List.getElem?_map] at hdd
        obtain ⟨st0, hst0, rfl⟩ := Option.map_eq_some_iff.mp hdd
        have hm0 := List.mem_of_getElem? hst0
        have hf1 : WOk rs ((ss.take i2).foldl (wStepF rs) f0) := WOk.steps _ (fun x hx => hs8 x (List.mem_of_mem_take hx)) hf0
        have hfold2 := foldl_take (wStepF rs) f0 ss i2 st0 hst0
        generalize (ss.take i2).foldl (wStepF rs) f0 = f1 at hwp8 hf1 hfold2
        refine g_tup (ds := [.str st0.1, .tup (st0.2.1.map .int), .str st0.2.2]) (is := [8, 9, 10]) nd rfl c9.ok r9 (.cons rfl (Or.inl rfl) (.inr rfl) rfl (.cons rfl (Or.inl rfl) (.inr rfl) rfl (.cons rfl (Or.inl rfl) (.inr rfl) rfl .nil))) rfl fun ws3 rws => ?_
        obtain ⟨u8, u9, u10, rfl, ra, rb, rc⟩ := RpA.three rws
        have e8 := ra.str_v
        have e10 := rc.str_v
        subst e8; subst e10
        have hwp9 := hwp8.ch0 c9
        have g59 := g57.trans (c8.gg.trans c9.gg)
        refine q_for (fun x => x = pw) (fun L i σ G' H' => (∃ (b11 : Option V), σ = [some (.ref a), some (.ref s), some v2, some vw, some vr, some vs, some (.ref pw), some v7, some (.str st0.1), some u9, some (.str st0.2.2), b11, b12, b13, b14, b15, b16, b17, b18]) ∧ WP K mg rs pw G' H' ((rs.take i).foldl (wRoom st0.1 st0.2.2) f1)) c9.ok
          (EvI.toP (ei_list (ev_v 4 (rr.mono (c5.gg.trans g59))))) (fun L G10 H10 c10 e => ⟨⟨_, rfl⟩, hwp9.ch0 c10⟩) ?_ ?_
        · rintro L i3 dd σ1 G10 H10 rfl hdd c10 ⟨⟨b11, rfl⟩, hwp10⟩ v11 G11 H11 c11 r11
          rw [List.getElem?_map] at hdd
          obtain ⟨room, hroom, rfl⟩ := Option.map_eq_some_iff.mp hdd
          have hrm := List.mem_of_getElem? hroom
          have hf2 : WOk rs ((rs.take i3).foldl (wRoom st0.1 st0.2.2) f1) := WOk.rooms (hs8 st0 hm0) _ (fun x hx => List.mem_of_mem_take hx) hf1
          have hfold3 := foldl_take (wRoom st0.1 st0.2.2) f1 rs i3 room hroom
          generalize (rs.take i3).foldl (wRoom st0.1 st0.2.2) f1 = f2 at hwp10 hf2 hfold3
          have e11 := r11.str_v
          subst e11
          refine g_name 11 nd ?_
          obtain ⟨ED2, ow2, wi2, hl2⟩ := hwp10.ch0 c11
          have l4 := len4 hf2 hrm hr4
          refine q_if (PB := (· = (decide (st0.1 ∈ f2 room) && !decide (st0.2.2 ∈ f2 room)))) c11.ok (EvW.t (ew_and (et_inS (ev_v 8 (.str _)) (OwnK.get (k := .inr room) (ib := 6) hu1 ow2 rfl (ev_v 11 (.str room)) (wi2 room hrm))) fun _ => ew_and1 (et_niS (ev_v 10 (.str _)) (OwnK.get (k := .inr room) (ib := 6) hu1 ow2 rfl (ev_v 11 (.str room)) (wi2 room hrm))))) (fun hb G12 H12 c12 => ?_) (fun hb G12 H12 c12 => ?_)
          · have hb' : st0.1 ∈ f2 room ∧ st0.2.2 ∉ f2 room := by
              have := hb.symm
              simpa using this
            have hw1 : wRoom st0.1 st0.2.2 f2 room = fupd f2 room (f2 room ++ [st0.2.2]) := by unfold wRoom w1; rw [if_pos hb']
            have ow3 := ow2.ch0 c12
            refine q_dput (ib := 6) (k := .inr room) c12.ok hu1 ow3 (by omega) (EvN.fz1 (en_addL (OwnK.get (k := .inr room) (ib := 6) hu1 ow3 rfl (ev_v 11 (.str room)) (wi2 room hrm)) (EvN.fz1 (en_lst (ea_cons (ev_v 10 (.str _)) ea_nil))) (by rw [List.length_map]; simp; omega))) (fun G13 H13 c13 => ev_v 11 (.str room)) fun d G13 H13 c13 e ow4 => ?_
            subst e
            refine q_nil (q_nil ⟨G13, c12.of0.trans c13, ⟨_, rfl⟩, _, ow4, ?_, ?_⟩)
            · rw [hfold3, hw1]
              have := WI.put (r := room) (l := f2 room ++ [st0.2.2]) wi2
              rw [List.map_append] at this
              exact this
            · rw [dPut_len (wi2 room hrm)]; exact hl2
          · have hb' : ¬ (st0.1 ∈ f2 room ∧ st0.2.2 ∉ f2 room) := by
              have := hb.symm
              simpa using this
            have hw1 : wRoom st0.1 st0.2.2 f2 room = f2 := by unfold wRoom w1; rw [if_neg hb', fupd_same]
            refine q_nil (q_nil ⟨G12, c12.of0, ⟨_, rfl⟩, ?_⟩)
            rw [hfold3, hw1]
            exact ⟨ED2, ow2.ch0 c12, wi2, hl2⟩
        · rintro L σ1 G10 H10 rfl c10 ⟨⟨b11, rfl⟩, hwp10⟩
          rw [List.length_map, List.take_length] at hwp10
          refine q_nil ⟨G10, c10, ⟨_, _, _, _, rfl⟩, ?_⟩
          rw [hfold2]
          exact hwp10
      · rintro L σ1 G8 H8 rfl c8 ⟨⟨b8, b9, b10, b11, rfl⟩, hwp8⟩
        rw [List.length_map, List.take_length] at hwp8
        refine q_nil ⟨G8, c8, ⟨_, _, _, _, _, rfl⟩, ?_⟩
        rw [hfold]
        exact hwp8
    · rintro L σ1 G6 H6 rfl c6 ⟨⟨b7, b8, b9, b10, b11, rfl⟩, hwp6⟩
      rw [List.length_map, List.take_length] at hwp6
      change WP K mg rs pw G6 H6 (waysF rs ss) at hwp6
      have hfw : WOk rs (waysF rs ss) := WOk.laps hs8 _ (WOk.start rs)
      obtain ⟨ED6, ow6, wi6, hl6⟩ := hwp6
      have wyl : ∀ x ∈ rs, (waysF rs ss x).length ≤ 4 := fun x hx => len4 hfw hx hr4
      refine q_parNE 12 13 nd c6.ok (en_lst ea_nil) (EvN.fz1 (en_lst ea_nil)) fun pd v13 d1 d2 G7 H7 c7 e1 e2 od r13 hpd => ?_
      subst e1; subst e2
      have ow7 := ow6.ch0 c7
      have npd : pd ≠ pw := fun z => ow6.tr (by rw [← z]; exact hpd)
      have g47 := c5.gg.trans (c6.gg.trans c7.gg)
      have rr7 := rr.mono g47
      have rs7 := rs'.mono g47
      refine q_for (fun x => x = pd) (fun L i σ G' H' => (∃ (b11 b13 b14 b15 b16 b17 : Option V) (u13 : V), σ = [some (.ref a), some (.ref s), some v2, some vw, some vr, some vs, some (.ref pw), b7, b8, b9, b10, b11, some (.ref pd), some u13, b14, b15, b16, b17, b18] ∧ Rp K mg G' u13 (.lst (((rs.take i).foldl (dueStep rs ss (waysF rs ss)) ([], [])).2.map .str))) ∧
          OwnL K mg W0 G' H' pd (((rs.take i).foldl (dueStep rs ss (waysF rs ss)) ([], [])).1.map rgD) ∧ ((rs.take i).foldl (dueStep rs ss (waysF rs ss)) ([], [])).1.length ≤ i ∧ ((rs.take i).foldl (dueStep rs ss (waysF rs ss)) ([], [])).2.length ≤ 4 * i) c7.ok
        (EvI.toP (ei_list (ev_v 4 rr7))) (fun L G8 H8 c8 e => ⟨⟨_, none, _, _, _, _, _, rfl, r13.mono c8.gg⟩, od.ch0 c8, Nat.le_refl _, Nat.le_refl _⟩) ?_ ?_
      · rintro L i4 dd σ1 G8 H8 rfl hdd c8 ⟨⟨b11', b13', b14', b15', b16', b17', u13, rfl, r13'⟩, od, z1, z2⟩ v11 G9 H9 c9 r11
        rw [List.getElem?_map] at hdd
        obtain ⟨room, hroom, rfl⟩ := Option.map_eq_some_iff.mp hdd
        have hrm := List.mem_of_getElem? hroom
        have hi4 : i4 < rs.length := (List.getElem?_eq_some_iff.mp hroom).1
        have hfold := foldl_take (dueStep rs ss (waysF rs ss)) ([], []) rs i4 room hroom
        generalize (rs.take i4).foldl (dueStep rs ss (waysF rs ss)) ([], []) = dst at r13' od z1 z2 hfold
        have e11 := r11.str_v
        subst e11
        refine g_name 11 nd ?_
        have od := od.ch0 c9
        have ow9 := (ow7.ch c8 (fun z => npd z.symm)).ch0 c9
        have g79 := c8.gg.trans c9.gg
        have r139 := r13'.mono c9.gg
        generalize hsm : someF rs (waysF rs ss) room = sm
        have hsl : sm.length ≤ rs.length := by rw [← hsm]; exact List.length_filter_le _ _
        refine q_asg 14 nd c9.ok (P := (· = .tup (sm.map .str))) (Ev.imp (ev_tuple (n_tuple t) (EvN.fz1 (en_lc (f := fun d => d) (keep := fun d => match d with | .str y => decide (y ∈ waysF rs ss room) && decide (room ∈ waysF rs ss y) | _ => false) [("other", 10)] nd (blkOk_by (N := lawN) (sc := defScope s_law) (by decide +kernel))
          (ei_list (ev_v 4 (rr7.mono g79))) (by rw [List.length_map]; omega) (fun j d v10 G10 H10 hd c10 r10 => ?_)))) fun d e => ?_) fun v14 d14 G10 H10 c10 e14 r14 => ?_
        · rw [List.getElem?_map] at hd
          obtain ⟨y, hy, rfl⟩ := Option.map_eq_some_iff.mp hd
          have hym := List.mem_of_getElem? hy
          have e10 := r10.str_v
          subst e10
          have ow10 := ow9.ch0 c10
          exact lc1 10 nd (fun s0 H0 C cl fp => ets_one (EvW.t (ew_and (et_inS (ev_v 10 (.str y)) (OwnK.get (k := .inr room) (ib := 6) hu1 ow10 rfl (ev_v 11 (.str room)) (wi6 room hrm))) fun _ => ew_and1 (et_inS (ev_v 11 (.str room)) (OwnK.get (k := .inr y) (ib := 6) hu1 ow10 rfl (ev_v 10 (.str y)) (wi6 y hym)))))) (fun s0 H0 C cl fp _ => ev_v 10 (.str y))
        · rw [e, ← hsm, List.map_id', List.filter_map]
          rfl
        subst e14
        generalize hin : insF ss (List.range ss.length) sm = ins
        have rs10 := rs7.mono (g79.trans c10.gg)
        refine q_asg 17 nd c10.ok (P := (· = .tup (ins.map fun n : Nat => .int n))) (Ev.imp (ev_tuple (n_tuple t) (EvN.fz1 (en_lc (f := fun d => match d with | .tup [.int y, _] => .int y | _ => .non) (keep := fun d => match d with | .tup [.int y, _] => decide ((stpAt ss y.toNat).1 ∈ sm) && decide ((stpAt ss y.toNat).2.2 ∈ sm) | _ => false) [("at", 15), ("step", 16)] nd (blkOk_by (N := lawN) (sc := defScope s_law) (by decide +kernel))
          (ei_enum (n_enumerate t) (ev_v 5 rs10)) (by rw [enum_eq, List.length_map, List.length_range]; omega) (fun j d v10 G11 H11 hd c11 r11 => ?_)))) fun d e => ?_) fun v17 d17 G11 H11 c11 e17 r17 => ?_
        · rw [enum_eq, List.getElem?_map] at hd
          obtain ⟨at', hat, rfl⟩ := Option.map_eq_some_iff.mp hd
          have hlt : at' < ss.length := List.mem_range.mp (List.mem_of_getElem? hat)
          have r14' := r14.mono c11.gg
          refine lcT (is := [15, 16]) nd c11.ok r11 rfl (fun s0 H0 C cl fp => .cons rfl (Or.inl rfl) (.inr rfl) rfl (.cons rfl (Or.inl rfl) (.inr rfl) rfl .nil)) fun us rus => ?_
          obtain ⟨u1, u2, rfl, ra, rb⟩ := rus.two
          have e15 := ra.int_v
          subst e15
          refine ⟨rfl, fun s0 H0 C cl fp => ⟨ets_one (EvW.t (ew_and (et_inS (ev_ixT (ds := [.str (stpAt ss at').1, .tup ((stpAt ss at').2.1.map .int), .str (stpAt ss at').2.2]) (ev_v 16 rb) ev_int) (ev_v 14 r14')) fun _ => ew_and1 (et_inS (ev_ixT (ds := [.str (stpAt ss at').1, .tup ((stpAt ss at').2.1.map .int), .str (stpAt ss at').2.2]) (ev_v 16 rb) ev_int) (ev_v 14 r14')))), fun _ => ev_v 15 (.int at')⟩⟩
        · rw [e, ← hin, enum_eq, List.filter_map, List.map_map]
          rfl
        subst e17
        have od := (od.ch0 c10).ch0 c11
        have r1411 := r14.mono c11.gg
        have r1311 := r139.mono (c10.gg.trans c11.gg)
        have cT := c9.of0 (S := fun x => x = pd)
        have cU := (c10.trans c11).of0 (S := fun x => x = pd)
        have hd2 : (dueStep rs ss (waysF rs ss) dst room).2 = dst.2 ++ sm := by rw [← hsm]; rfl
        have hd1 : (dueStep rs ss (waysF rs ss) dst room).1 = if room ∉ dst.2 ∧ ins.isEmpty = false then dst.1 ++ [(sm, ins)] else dst.1 := by rw [← hin, ← hsm]; rfl
        refine q_ifM (fun σ' H' => σ' = [some (.ref a), some (.ref s), some v2, some vw, some vr, some vs, some (.ref pw), b7, b8, b9, b10, some (.str room), some (.ref pd), some u13, some v14, b15', b16', some v17, b18] ∧ ∃ G', Ch W0 (fun x => x = pd) G9 H9 G' H' ∧ Ext G11 G' ∧ OwnL K mg W0 G' H' pd ((dueStep rs ss (waysF rs ss) dst room).1.map rgD)) c11.ok
          (EvW.t (ew_and (et_niS (ev_v 11 (.str room)) (ev_v 13 r1311)) fun _ => ew_and1 (et_neNilT hu (ev_v 17 r17) (arePy_ints ins) (dep_intsT ins)))) (fun hb G12 H12 c12 => ?_) (fun hb G12 H12 c12 => ?_) ?_
        · rw [List.isEmpty_map] at hb
          have hb' : room ∉ dst.2 ∧ ins.isEmpty = false := by
            have := hb.symm
            simpa using this
          rw [hd1, if_pos hb']
          refine q_app (i := 12) c12.ok (od.ch0 c12) rfl (ev_tup (ea_cons (ev_v 14 (r1411.mono c12.gg)) (ea_cons (ev_v 17 (r17.mono c12.gg)) ea_nil))) (by rw [List.length_map]; omega) fun d G13 H13 c13 e od => ?_
          subst e
          refine q_nil ⟨rfl, G13, cU.trans (c12.of0.trans c13), c12.gg.trans c13.gg, ?_⟩
          rw [List.map_append]
          exact od
        · rw [List.isEmpty_map] at hb
          have hb' : ¬ (room ∉ dst.2 ∧ ins.isEmpty = false) := by
            have := hb.symm
            simpa using this
          rw [hd1, if_neg hb']
          exact q_nil ⟨rfl, G12, cU.trans c12.of0, c12.gg, od.ch0 c12⟩
        · rintro σ' H12 ⟨rfl, G12, c12, ext12, od⟩
          refine q_asg 13 nd c12.ok (EvN.fz1 (en_addL (ev_v 13 (r1311.mono ext12)) (EvN.fz1 (en_list (n_list t) (ev_v 14 (r1411.mono ext12)) rfl)) (by rw [List.length_map, List.length_map]; omega))) fun v13 d13 G13 H13 c13 e13 r13 => ?_
          subst e13
          rw [← List.map_append] at r13
          refine q_nil ⟨G13, c12.trans c13.of0, ⟨_, none, _, _, _, _, v13, rfl, ?_⟩, ?_, ?_, ?_⟩
          · rw [hfold, hd2]; exact r13
          · rw [hfold]; exact od.ch0 c13
          · rw [hfold, hd1]
            split
            · rw [List.length_append, List.length_singleton]; omega
            · omega
          · rw [hfold, hd2, List.length_append]; omega
      · rintro L σ1 G8 H8 rfl c8 ⟨⟨b11', b13', b14', b15', b16', b17', u13, rfl, r13'⟩, od, z1, z2⟩
        rw [List.length_map, List.take_length] at od
        change OwnL K mg W0 G8 H8 pd ((dueF rs ss).map rgD) at od
        have npd3 : H3 pd = none := (cc35.loc (S := Sg s g) c6 fun x hx => .inr (by rw [hx]; exact hpw3)).new_of hpd
        have nds : pd ≠ s := fun z => tr3.1 (by rw [← z]; exact npd3)
        have ndg : pd ≠ g := fun z => tr3.2 (by rw [← z]; exact npd3)
        have g48 := g47.trans c8.gg
        refine q_asg 18 nd c8.ok (ev_make (c_House t) (hr.mono (by decide)) (ea_cons (ev_v 3 (rw.mono g48)) (ea_cons (ev_v 4 (rr.mono g48)) (ea_cons (ev_v 5 (rs'.mono g48)) ea_nil))) ⟨ws, rs, ss, rfl, hok, rfl⟩) fun v18 d18 G9 H9 c9 e18 r18 => ?_
        subst e18
        have od9 := od.ch0 c9
        have chain : Ch W0 (Sg s g) G3 H3 G9 H9 := ((cc35.loc c6 fun x hx => .inr (by rw [hx]; exact hpw3)).trans c7.of0).loc (c8.trans c9.of0) fun x hx => .inr (by rw [hx]; exact npd3)
        obtain ⟨G10, c10, rdue, ext⟩ := od9.fz chain npd3
        have st9 := (((st5.ch c6 (fun z => ns' z.symm) (fun z => ng' z.symm)).ch0 c7).ch c8 (fun z => nds z.symm) (fun z => ndg z.symm)).ch0 c9
        have st10 : StS K mg s g (100 * i + 100) G10 H9 := by
          obtain ⟨c', r', u', gr', ce', f1, f2, f3, more⟩ := st9.ex
          exact ⟨c10.fr s tr3.1 st3.gs, c10.fr g tr3.2 st3.gg, st9.ne, c', r', u', gr', ce', f1, f2, f3.mono ext, more⟩
        have r18' := r18.mono ext
        have hF : F_rings [.ins "House" (fldsH ws rs ss)] (.lst ((dueF rs ss).map rgD)) := ⟨ws, rs, ss, rfl, hok, by rw [plain ws rs ss dr.rn hss]⟩
        have hN := due_nice dr h8
        generalize hDD : D.lst ((dueF rs ss).map rgD) = DD at rdue hF hN
        have hsq' : (seq? DD).isSome = true := by rw [← hDD]; rfl
        refine q_if c10.ok (EvW.t (ew_or (et_not (et_val1 (ev_is FnI (g_law_is t) FdI.kp bI gA (hr.mono (by decide)) (ev_call (c_rings t) (hr.mono (by decide)) (ea_cons (ev_v 18 r18') ea_nil) hF) (ev_v 12 rdue) hsq' hN (by decide) (by decide)))) fun _ =>
          ew_or1 (et_not (et_val1 (ev_is FnI (g_law_is t) FdI.kp bI gA (hr.mono (by decide)) (ev_callK1 (k_rings t) (hr.mono (by decide)) (ev_v 18 r18') hF) (ev_v 12 rdue) hsq' hN (by decide) (by decide)))))) (fun e => by cases e) fun _ G11 H11 c11 => q_nil ?_
        refine q_nil ⟨G11, c10.trans c11.of0, ⟨_, _, _, _, _, _, _, _, _, _, _, _, _, _, _, _, _, rfl⟩, st10.ch0 c11, hL⟩
  · rintro L σ1 G2 H2 rfl c2 ⟨⟨b2, b3, b4, b5, b6, b7, b8, b9, b10, b11, b12, b13, b14, b15, b16, b17, b18, rfl⟩, st2, _⟩
    refine q_ret c2.ok (last_gen (d1 := .lst [.str "x"]) (d2 := .lst [.str "p", .str "q"]) (d3 := .lst [.tup [.str "p", .tup [.int (0 - 1)], .str "p"], .tup [.str "p", .tup [.int 0], .str "q"]]) (dl := lastD) (g_law_is t) FnI FdI.kp bI gA (hr.mono (by decide)) (c_rings t) (c_House t) (hr.mono (by decide)) (hr.mono (by decide)) ?_ ?_ ?_ ?_ (fun _ _ => rfl) (fun _ _ => rfl) (fun _ _ => rfl) (fun _ _ => rfl) last_init last_rings rfl last_nice) fun v d G3 H3 c3 e rv => ?_
    · exact b_one ev_str fun _ _ => rfl
    · exact b_pair ev_str ev_str (fun _ _ => rfl) fun _ _ => rfl
    · refine b_pair ?_ ?_ (fun _ _ => rfl) fun _ _ => rfl
      · refine b_three ?_ fun _ _ => rfl
        exact b_sub
      · exact b_three ev_int fun _ _ => rfl
    · refine b_one ?_ fun _ _ => rfl
      exact b_tt ev_str ev_int (fun _ _ => rfl) fun _ _ => rfl
    subst e
    rw [rv.bl_v]
    exact q H3
end Fx
set_option Elab.async false
set_option linter.all false
set_option maxRecDepth 100000
namespace Hd
open PySem L2
set_option maxHeartbeats 0
def ts : List He.Tab := []
def tf : List He.Defn := []
abbrev R : PySem.W.OpenRow := PySem.W.OpenLaw.row PySem.Challenge.rw_timesdone_k77_whole_rings_of_houses
abbrev hk : PySem.W.Hook := He.hookX 6 fa fn ts tf ex
def ob (s : PySem.W.SharedT) : He.AlX := He.obsX 6 fa fn ts tf ex (HandSHeadRun.getT s)
theorem ob_eq (s : PySem.W.SharedT) : ob s = hk.obs s.abs := He.obsX_eq (HandSHeadRun.getT_eq s)
def loose : List Str := ["_wall", "__name__", "RoundError", "NoHouse", "LETTERS", "OWN", "is_name", "are_names", "MOST_WARES", "MOST_ROOMS", "MOST_STEPS", "MOST_CHANGE", "is_number", "is_house_step", "House", "need_house", "reached", "rings_by", "rings", "_law_begun", "_law_mixed", "_law_draw", "_law_pick", "_law_shuffled", "_law_is", "_law_house"]
theorem run (w : World) : HandSHeadRun.RunEq R (PySem.W.view R.prog [29]) hk ob 4000 loose w := by
  intro os
  kernel_rfl
end Hd
set_option Elab.async false
set_option linter.all false
set_option maxRecDepth 100000
set_option maxHeartbeats 1000000
namespace Fx
open PySem
/-! ### the plain law -/
inductive Reach (ss : List Stp) (r : Str) : Str → Prop
  | refl : Reach ss r r
  | step {x : Str} {s : Stp} : Reach ss r x → s ∈ ss → s.1 = x → Reach ss r s.2.2
theorem Reach.trans {ss : List Stp} {a b c : Str} (h : Reach ss a b) (k : Reach ss b c) : Reach ss a c := by
  induction k with
  | refl => exact h
  | step _ hs e ih => exact .step ih hs e
def Closed (ss : List Stp) (l : List Str) : Prop := ∀ s ∈ ss, s.1 ∈ l → s.2.2 ∈ l
theorem reach_closed {ss : List Stp} {l : List Str} {r x : Str} (h : Closed ss l) (hr : r ∈ l) (k : Reach ss r x) : x ∈ l := by
  induction k with
  | refl => exact hr
  | step _ hs e ih => exact h _ hs (by rw [e]; exact ih)
/-! the program's search -/
structure Good (ss : List Stp) (room : Str) (f w : List Str) : Prop where
  r : room ∈ f
  wf : ∀ x ∈ w, x ∈ f
  snd : ∀ x ∈ f, Reach ss room x
  cl : ∀ s ∈ ss, s.1 ∈ f → s.1 ∉ w → s.2.2 ∈ f
theorem mem_stp {ss : List Stp} {s : Stp} (h : s ∈ ss) : ∃ a, a ∈ List.range ss.length ∧ stpAt ss a = s := by
  obtain ⟨i, hi, e⟩ := List.mem_iff_getElem.mp h
  refine ⟨i, List.mem_range.mpr hi, ?_⟩
  unfold stpAt
  rw [List.getD_eq_getElem?_getD, List.getElem?_eq_getElem hi, e]
  rfl
theorem fold_good {ss : List Stp} {here room : Str} {f w : List Str} (hh : here ∈ f) (wf : ∀ x ∈ w, x ∈ f) (snd : ∀ x ∈ f, Reach ss room x) : ∀ (l : List Nat) (fw : List Str × List Str), (∀ a ∈ l, a < ss.length) →
    (∀ x ∈ f, x ∈ fw.1) → (∀ x ∈ w, x ∈ fw.2) → (∀ x ∈ fw.1, x ∈ f ∨ x ∈ fw.2) → (∀ x ∈ fw.2, x ∈ fw.1) → (∀ x ∈ fw.1, Reach ss room x) →
    let g := l.foldl (rStep ss here) fw
    (∀ x ∈ fw.1, x ∈ g.1) ∧ (∀ x ∈ fw.2, x ∈ g.2) ∧ (∀ x ∈ g.1, x ∈ f ∨ x ∈ g.2) ∧ (∀ x ∈ g.2, x ∈ g.1) ∧ (∀ x ∈ g.1, Reach ss room x) ∧ ∀ a ∈ l, (stpAt ss a).1 = here → (stpAt ss a).2.2 ∈ g.1
  | [], fw, _, h1, h2, h3, h4, h5 => ⟨fun _ z => z, fun _ z => z, h3, h4, h5, fun a ha => by cases ha⟩
  | a :: l, fw, hl, h1, h2, h3, h4, h5 => by
    have hm := stpAt_mem (hl a List.mem_cons_self)
    have key : (∀ x ∈ fw.1, x ∈ (rStep ss here fw a).1) ∧ (∀ x ∈ fw.2, x ∈ (rStep ss here fw a).2) ∧ (∀ x ∈ (rStep ss here fw a).1, x ∈ f ∨ x ∈ (rStep ss here fw a).2) ∧ (∀ x ∈ (rStep ss here fw a).2, x ∈ (rStep ss here fw a).1) ∧ (∀ x ∈ (rStep ss here fw a).1, Reach ss room x) ∧ ((stpAt ss a).1 = here → (stpAt ss a).2.2 ∈ (rStep ss here fw a).1) := by
      unfold rStep
      split
      · rename_i c
        refine ⟨fun x hx => List.mem_append_left _ hx, fun x hx => List.mem_append_left _ hx, fun x hx => ?_, fun x hx => ?_, fun x hx => ?_, fun _ => List.mem_append_right _ List.mem_cons_self⟩
        · rcases List.mem_append.mp hx with z | z
          · exact (h3 x z).imp id fun y => List.mem_append_left _ y
          · exact .inr (List.mem_append_right _ z)
        · rcases List.mem_append.mp hx with z | z
          · exact List.mem_append_left _ (h4 x z)
          · exact List.mem_append_right _ z
        · rcases List.mem_append.mp hx with z | z
          · exact h5 x z
          · rw [List.mem_singleton.mp z]
            exact .step (h5 here (h1 here hh)) hm c.1
      · rename_i c
        refine ⟨fun _ z => z, fun _ z => z, h3, h4, h5, fun e => ?_⟩
        by_cases z : (stpAt ss a).2.2 ∈ fw.1
        · exact z
        · exact absurd ⟨e, z⟩ c
    obtain ⟨k1, k2, k3, k4, k5, k6⟩ := key
    have ih := fold_good hh wf snd l (rStep ss here fw a) (fun b hb => hl b (List.mem_cons_of_mem _ hb)) (fun x hx => k1 x (h1 x hx)) (fun x hx => k2 x (h2 x hx)) k3 k4 k5
    obtain ⟨i1, i2, i3, i4, i5, i6⟩ := ih
    refine ⟨fun x hx => i1 x (k1 x hx), fun x hx => i2 x (k2 x hx), i3, i4, i5, fun b hb e => ?_⟩
    rcases List.mem_cons.mp hb with z | z
    · rw [z] at e ⊢; exact i1 _ (k6 e)
    · exact i6 b z e
theorem dfs_ok {rs : List Str} {ss : List Stp} {room : Str} (hq : ∀ s ∈ ss, s.2.2 ∈ rs) : ∀ (m : Nat) (f w : List Str), RInv rs m f w → Good ss room f w → ∀ x, x ∈ dfs ss (List.range ss.length) m f w ↔ Reach ss room x := by
  have done : ∀ f, Good ss room f [] → ∀ x, x ∈ f ↔ Reach ss room x := fun f g x => ⟨g.snd x, fun h => reach_closed (fun s hs h1 => g.cl s hs h1 (fun z => by cases z)) g.r h⟩
  intro m
  induction m with
  | zero =>
    intro f w inv g
    have h1 := inv.le
    have h2 := nodup_le f rs inv.nd inv.sub
    obtain rfl : w = [] := List.length_eq_zero_iff.mp (by omega)
    exact done f g
  | succ m ih =>
    intro f w inv g
    unfold dfs
    split
    · rename_i e
      obtain rfl : w = [] := List.isEmpty_iff.mp e
      exact done f g
    · rename_i e
      have hw : w ≠ [] := fun z => e (by rw [z]; rfl)
      have hsp := getLastD_split hw
      generalize hh : w.getLastD "" = here at hsp
      have hhw : here ∈ w := by rw [hsp]; exact List.mem_append_right _ List.mem_cons_self
      have inv0 : RInv rs m f w.dropLast := ⟨inv.nd, inv.sub, fun x hx => inv.ws x (List.dropLast_subset w hx), by have := inv.le; have h3 := List.length_pos_iff.mpr hw; simp only [List.length_dropLast]; omega⟩
      have hlt : ∀ a ∈ List.range ss.length, a < ss.length := fun a ha => List.mem_range.mp ha
      obtain ⟨i1, i2, i3, i4, i5, i6⟩ := fold_good (ss := ss) (here := here) (room := room) (f := f) (w := w.dropLast) (g.wf here hhw) (fun x hx => g.wf x (List.dropLast_subset w hx)) g.snd (List.range ss.length) (f, w.dropLast) hlt (fun _ z => z) (fun _ z => z) (fun x hx => .inl hx) (fun x hx => g.wf x (List.dropLast_subset w hx)) g.snd
      refine ih _ _ (RInv.fold (List.range ss.length) (fw := (f, w.dropLast)) inv0 fun a ha => hq _ (stpAt_mem (hlt a ha))) ⟨i1 room g.r, i4, i5, fun s hs h1 h2 => ?_⟩
      obtain ⟨a, ha, e2⟩ := mem_stp hs
      rcases i3 _ h1 with h3 | h3
      · by_cases e3 : s.1 = here
        · have := i6 a ha (by rw [e2]; exact e3)
          rw [e2] at this
          exact this
        · refine i1 _ (g.cl s hs h3 fun z => h2 (i2 _ ?_))
          rw [hsp] at z
          rcases List.mem_append.mp z with z | z
          · exact z
          · exact absurd (List.mem_singleton.mp z) e3
      · exact absurd h3 h2
theorem reachF_iff {rs : List Str} {ss : List Stp} {room : Str} (hq : ∀ s ∈ ss, s.2.2 ∈ rs) (hr : room ∈ rs) (x : Str) : x ∈ reachF rs ss (List.range ss.length) room ↔ Reach ss room x :=
  dfs_ok hq _ _ _ ⟨by simp, fun x hx => by rw [List.mem_singleton.mp hx]; exact hr, fun x hx => by rw [List.mem_singleton.mp hx]; exact hr, by simp⟩ ⟨List.mem_cons_self, fun _ z => z, fun x hx => by rw [List.mem_singleton.mp hx]; exact .refl, fun s _ h1 h2 => absurd h1 h2⟩ x
/-! the law's own ways -/
def lap1 (ss : List Stp) (l : List Str) : List Str := ss.foldl (fun l s => w1 s.1 s.2.2 l) l
theorem rooms_at {p q : Str} : ∀ (l : List Str) (f : Str → List Str) (x : Str), l.Nodup → (l.foldl (wRoom p q) f) x = if x ∈ l then w1 p q (f x) else f x
  | [], f, x, _ => by simp
  | r :: l, f, x, h => by
    have h1 := List.nodup_cons.mp h
    rw [List.foldl_cons, rooms_at l _ x h1.2]
    unfold wRoom fupd
    by_cases e : x = r
    · subst e
      rw [if_neg h1.1, if_pos rfl, if_pos List.mem_cons_self]
    · rw [if_neg e]
      by_cases m : x ∈ l
      · rw [if_pos m, if_pos (List.mem_cons_of_mem _ m)]
      · rw [if_neg m, if_neg (fun z => by rcases List.mem_cons.mp z with z | z; exact e z; exact m z)]
theorem steps_at {rs : List Str} (nd : rs.Nodup) {x : Str} (hx : x ∈ rs) : ∀ (ss : List Stp) (f : Str → List Str), (ss.foldl (wStepF rs) f) x = lap1 ss (f x)
  | [], f => rfl
  | s :: ss, f => by
    rw [List.foldl_cons, steps_at nd hx ss]
    unfold wStepF
    rw [rooms_at rs f x nd, if_pos hx]
    rfl
def iter (ss : List Stp) : Nat → List Str → List Str
  | 0, l => l
  | n + 1, l => lap1 ss (iter ss n l)
theorem iter_succ (ss : List Stp) (l : List Str) : ∀ n, iter ss n (lap1 ss l) = lap1 ss (iter ss n l)
  | 0 => rfl
  | n + 1 => by unfold iter; rw [iter_succ ss l n]
theorem laps_at {rs : List Str} {ss : List Stp} (nd : rs.Nodup) {x : Str} (hx : x ∈ rs) : ∀ (l : List Str) (f : Str → List Str), (l.foldl (wLap rs ss) f) x = iter ss l.length (f x)
  | [], f => rfl
  | y :: l, f => by
    rw [List.foldl_cons, laps_at nd hx l]
    unfold wLap
    rw [steps_at nd hx ss f]
    exact iter_succ ss _ _
theorem lap_grow : ∀ (ss : List Stp) (l : List Str), l.length ≤ (lap1 ss l).length ∧ ((lap1 ss l).length = l.length → lap1 ss l = l ∧ Closed ss l)
  | [], l => ⟨Nat.le_refl _, fun _ => ⟨rfl, fun s hs => by cases hs⟩⟩
  | s :: ss, l => by
    have e : lap1 (s :: ss) l = lap1 ss (w1 s.1 s.2.2 l) := rfl
    obtain ⟨h1, h2⟩ := lap_grow ss (w1 s.1 s.2.2 l)
    rw [e]
    by_cases c : s.1 ∈ l ∧ s.2.2 ∉ l
    · have hw : w1 s.1 s.2.2 l = l ++ [s.2.2] := if_pos c
      rw [hw] at h1 ⊢
      rw [List.length_append, List.length_singleton] at h1
      exact ⟨by omega, fun z => by omega⟩
    · have hw : w1 s.1 s.2.2 l = l := if_neg c
      rw [hw] at h1 h2 ⊢
      refine ⟨h1, fun z => ?_⟩
      obtain ⟨a, b⟩ := h2 z
      refine ⟨a, fun t ht h => ?_⟩
      rcases List.mem_cons.mp ht with z | z
      · subst z
        by_cases y : t.2.2 ∈ l
        · exact y
        · exact absurd ⟨h, y⟩ c
      · exact b t z h
theorem lap_closed : ∀ (ss : List Stp) (l : List Str), Closed ss l → lap1 ss l = l
  | [], l, _ => rfl
  | s :: ss, l, h => by
    have hw : w1 s.1 s.2.2 l = l := if_neg fun c => c.2 (h s List.mem_cons_self c.1)
    show lap1 ss (w1 s.1 s.2.2 l) = l
    rw [hw]
    exact lap_closed ss l fun t ht => h t (List.mem_cons_of_mem _ ht)
theorem lap_snd {all : List Stp} {r : Str} : ∀ (ss : List Stp) (l : List Str), (∀ s ∈ ss, s ∈ all) → (∀ x ∈ l, Reach all r x) → (∀ x ∈ lap1 ss l, Reach all r x) ∧ (∀ x ∈ l, x ∈ lap1 ss l)
  | [], l, _, h => ⟨h, fun _ z => z⟩
  | s :: ss, l, hs, h => by
    show (∀ x ∈ lap1 ss (w1 s.1 s.2.2 l), _) ∧ (∀ x ∈ l, x ∈ lap1 ss (w1 s.1 s.2.2 l))
    have h2 : (∀ x ∈ w1 s.1 s.2.2 l, Reach all r x) ∧ ∀ x ∈ l, x ∈ w1 s.1 s.2.2 l := by
      unfold w1
      split
      · rename_i c
        refine ⟨fun x hx => ?_, fun x hx => List.mem_append_left _ hx⟩
        rcases List.mem_append.mp hx with z | z
        · exact h x z
        · rw [List.mem_singleton.mp z]
          exact .step (h _ c.1) (hs s List.mem_cons_self) rfl
      · exact ⟨h, fun _ z => z⟩
    obtain ⟨a, b⟩ := lap_snd ss _ (fun t ht => hs t (List.mem_cons_of_mem _ ht)) h2.1
    exact ⟨a, fun x hx => b x (h2.2 x hx)⟩
theorem iter_ok (ss : List Stp) (r : Str) : ∀ n, (∀ x ∈ iter ss n [r], Reach ss r x) ∧ r ∈ iter ss n [r] ∧ (Closed ss (iter ss n [r]) ∨ n + 1 ≤ (iter ss n [r]).length)
  | 0 => ⟨fun x hx => by rw [List.mem_singleton.mp hx]; exact .refl, List.mem_cons_self, .inr (Nat.le_refl _)⟩
  | n + 1 => by
    obtain ⟨h1, h2, h3⟩ := iter_ok ss r n
    obtain ⟨a, b⟩ := lap_snd ss _ (fun _ z => z) h1
    refine ⟨a, b _ h2, ?_⟩
    rcases h3 with h3 | h3
    · left
      show Closed ss (lap1 ss (iter ss n [r]))
      rw [lap_closed ss _ h3]
      exact h3
    · obtain ⟨g1, g2⟩ := lap_grow ss (iter ss n [r])
      by_cases e : (lap1 ss (iter ss n [r])).length = (iter ss n [r]).length
      · obtain ⟨e1, e2⟩ := g2 e
        left
        show Closed ss (lap1 ss (iter ss n [r]))
        rw [e1]; exact e2
      · right
        show n + 1 + 1 ≤ (lap1 ss (iter ss n [r])).length
        omega
theorem waysF_iff {rs : List Str} {ss : List Stp} {room : Str} (nd : rs.Nodup) (hq : ∀ s ∈ ss, s.2.2 ∈ rs) (hr : room ∈ rs) (x : Str) : x ∈ waysF rs ss room ↔ Reach ss room x := by
  have e : waysF rs ss room = iter ss rs.length [room] := laps_at nd hr rs _
  obtain ⟨h1, h2, h3⟩ := iter_ok ss room rs.length
  have hw : (waysF rs ss room).Nodup ∧ ∀ x ∈ waysF rs ss room, x ∈ rs := (WOk.laps (ss := ss) hq rs (WOk.start rs)) room hr
  rw [e] at hw ⊢
  have hl := nodup_le _ rs hw.1 hw.2
  rcases h3 with h3 | h3
  · exact ⟨h1 x, fun h => reach_closed h3 h2 h⟩
  · omega
/-! both tell the same -/
theorem plain : Plain := by
  intro ws rs ss nd hss
  have hq : ∀ s ∈ ss, s.2.2 ∈ rs := fun s hs => (hss s hs).2.1
  have hsome : ∀ room ∈ rs, someF rs (reachF rs ss (List.range ss.length)) room = someF rs (waysF rs ss) room := fun room hr => by
    unfold someF
    refine List.filter_congr fun y hy => ?_
    rw [decide_eq_decide.mpr ((reachF_iff hq hr y).trans (waysF_iff nd hq hr y).symm), decide_eq_decide.mpr ((reachF_iff hq hy room).trans (waysF_iff nd hq hy room).symm)]
  have hmem : ∀ room ∈ rs, ∀ y, y ∈ someF rs (waysF rs ss) room ↔ y ∈ rs ∧ Reach ss room y ∧ Reach ss y room := fun room hr y => by
    unfold someF
    rw [List.mem_filter]
    constructor
    · rintro ⟨hy, h⟩
      simp only [Bool.and_eq_true, decide_eq_true_eq] at h
      exact ⟨hy, (waysF_iff nd hq hr y).mp h.1, (waysF_iff nd hq hy room).mp h.2⟩
    · rintro ⟨hy, h1, h2⟩
      simp only [Bool.and_eq_true, decide_eq_true_eq]
      exact ⟨hy, (waysF_iff nd hq hr y).mpr h1, (waysF_iff nd hq hy room).mpr h2⟩
  have key : ∀ (l : List Str) (a b : List RG × List Str), (∀ x ∈ l, x ∈ rs) → a.1 = b.1 → (∀ x, x ∈ a.2 ↔ x ∈ b.2) → (∀ x ∈ b.2, x ∈ rs ∧ ∀ y, y ∈ someF rs (waysF rs ss) x → y ∈ b.2) →
      (l.foldl (rgStep rs ss (List.range ss.length) (reachF rs ss (List.range ss.length))) a).1 = (l.foldl (dueStep rs ss (waysF rs ss)) b).1 := by
    intro l
    induction l with
    | nil => intro a b _ h _ _; exact h
    | cons room l ih =>
      intro a b hl h1 h2 h3
      have hr := hl room List.mem_cons_self
      rw [List.foldl_cons, List.foldl_cons]
      refine ih _ _ (fun x hx => hl x (List.mem_cons_of_mem _ hx)) ?_ ?_ ?_
      · unfold rgStep dueStep
        rw [hsome room hr]
        by_cases m : room ∈ a.2
        · rw [if_pos m, if_neg (fun z => z.1 ((h2 room).mp m))]
          exact h1
        · rw [if_neg m]
          have m' : room ∉ b.2 := fun z => m ((h2 room).mpr z)
          cases e : (insF ss (List.range ss.length) (someF rs (waysF rs ss) room)).isEmpty with
          | true => rw [if_pos rfl, if_neg (fun z => by cases z.2)]; exact h1
          | false =>
            rw [if_neg (by decide), if_pos ⟨m', rfl⟩, h1]
      · intro x
        unfold rgStep dueStep
        rw [hsome room hr]
        by_cases m : room ∈ a.2
        · rw [if_pos m]
          rw [h2 x, List.mem_append]
          exact ⟨.inl, fun z => z.elim id fun y => (h3 room ((h2 room).mp m)).2 x y⟩
        · rw [if_neg m, List.mem_append, List.mem_append, h2 x]
      · intro x hx
        have hd : (dueStep rs ss (waysF rs ss) b room).2 = b.2 ++ someF rs (waysF rs ss) room := rfl
        rw [hd] at hx ⊢
        rcases List.mem_append.mp hx with z | z
        · exact ⟨(h3 x z).1, fun y hy => List.mem_append_left _ ((h3 x z).2 y hy)⟩
        · obtain ⟨x1, x2, x3⟩ := (hmem room hr x).mp z
          refine ⟨x1, fun y hy => List.mem_append_right _ ?_⟩
          obtain ⟨y1, y2, y3⟩ := (hmem x x1 y).mp hy
          exact (hmem room hr y).mpr ⟨y1, x2.trans y2, y3.trans x3⟩
  exact key rs ([], []) ([], []) (fun _ z => z) rfl (fun _ => Iff.rfl) (fun x hx => by cases hx)
end Fx
set_option Elab.async false
set_option linter.all false
set_option maxRecDepth 100000
set_option maxHeartbeats 0
namespace Fx
open PySem PySem.Spec PyProof.Rows L2 GX Hd
abbrev LW : PySem.W.OpenLaw := PySem.Challenge.rw_timesdone_k77_whole_rings_of_houses
theorem tx_of {w : World} {h : Heap} {K : PySem.W.Frag} {mg : Str → Option Value} (X : K.In h) (G : h.Ns mainGlobals mg) (c : He.SaysX fa fn ts tf ex w h K) : T K mg :=
  ⟨fun i d e => c.t.d.def_ i e, fun i x e => He.glo_ok X G (c.t.d.fact i e), fun i x e => He.free_ok X G (c.t.d.fact i e), fun i x j e => He.int_ok X G (c.t.d.fact i e), fun i x j e => He.str_ok X G (c.t.d.fact i e), fun i x e => c.t.d.fact i e, c.more⟩
theorem walk_k77 (plain : Plain) {q : Program} {loose : List Str} {XP : (Str → Option Value) → Heap → Prop} {d : DefRec} (hdf : d.params.defaults = []) (hdn : d.name = ("law" : Str)) :
    PySem.W.WalkO q loose XP hk.says LW.row.toRowW d [] (fun f vs => PySem.call f vs) := by
  refine Att.attach_call (l := LW) (n := 63) rfl hdf fun w s₀ s₁ mg mb fa0 o pm cd doc a vs ns G Y ho hd hcd hmg hobj hints hlen hg => ?_
  obtain ⟨K, KX, c⟩ := Y
  have t : T K mg := tx_of KX G.T.g c
  have hmg' : mg ("law" : Str) = some (.ref fa0) := by rw [← hdn]; exact hmg
  have e := hmg'.symm.trans (Hd.g_law t)
  cases e
  refine law_at KX G.T.g G.T.b G.T.builtins G.T.nolimit hg hobj hints (Nat.le_trans hlen (by decide)) fun base H kb nb hS env => ?_
  obtain ⟨fd, Fd, Fn⟩ := Fx.g_law (P := LW.prog) (w := w) (base := base) t plain
  have bd := FunD.bindsA (ps := ["script"]) Fd (fun _ _ _ _ _ _ us hl => match us, hl with | [_], _ => rfl) s₁ [.ref a] rfl
  exact Fn.run callerA [] s₁ H ⟨[.ref a], []⟩ [.ref a] [.ref a] (fun v _ => v = .bl true) (fun _ _ _ => False) rfl ⟨rfl, by decide, by decide⟩ env bd (.cons rfl .nil) ⟨a, ns, rfl, hS, hlen, fun _ => rfl⟩
end Fx
open PySem PySem.W PySem.Calls PyProof.Rows
theorem holds_of (plain : Fx.Plain) : PySem.Challenge.rw_timesdone_k77_whole_rings_of_houses.Holds := by
  w_on; o_law
  refine HandSHeadRun.head_any (r := OpenLaw.row PySem.Challenge.rw_timesdone_k77_whole_rings_of_houses) (q := view (OpenLaw.row PySem.Challenge.rw_timesdone_k77_whole_rings_of_houses).prog [29]) (H := Hd.hk) (ob := Hd.ob) (M := 4000) (loose := Hd.loose) (d := HandSHeadRun.topDef (OpenLaw.row PySem.Challenge.rw_timesdone_k77_whole_rings_of_houses).prog 29) (kwd := []) Hd.ob_eq
    (by kernel_rfl) (fun s => by kernel_rfl) Hd.run (by kernel_rfl) (by kernel_rfl) (by kernel_rfl) (by rfl) (by first | assumption | decide +kernel) (by decide +kernel) ⟨rfl, rfl, rfl, rfl, rfl, by decide +kernel⟩ ?hw ?hc
  case hw => w_witness2
  case hc => exact Fx.walk_k77 plain (by kernel_rfl) (by kernel_rfl)
theorem PySem.Challenge.cw_timesdone_k77_whole_rings_of_houses_holds : PySem.Challenge.rw_timesdone_k77_whole_rings_of_houses.Holds := by
  exact holds_of Fx.plain
