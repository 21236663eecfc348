import PyProof.Rows.All
import Wide.All
import OpenK.AllK
import Wide.FinOn
import Lean
import PySem.Challenge.RW_pf0282_01
set_option Elab.async false
section
set_option maxRecDepth 100000
set_option linter.unusedVariables false
open PySem PySem.W
namespace Mine
noncomputable section

structure KFr where
  k : Result → Sem Fin
  c : Code
  p : Pos

structure Sp where
  st : Option (List Code)
  c : Code
  i : Nat
  m : Nat
  j : Nat
  pre : List (Nat × Obj)
  v : Value
  up : List (Nat × Obj)
  new : List Obj

structure SV where
  D : Code → Sem Fin
  prog : Program
  w : World
  kt : X.KT
  base : Nat → Nat
  nb : Nat
  N : Nat
  tok : Nat → Nat
  inc : Nat → Nat
  bel : List (Code × Pos)
  sp : Nat → Option Sp

structure StK where
  c : Code
  p : Pos
  κ : List KFr
  t : Sem Fin
  T : BT
  m : Nat
  i : Nat

inductive Ob where
  | nil
  | bad
  | eq (a e : Nat) (r : Ob)
  | st (x y : StK) (z r : Ob)
  | tr (x y : Sem Fin) (r : Ob)
  | sub (x r : Ob)

inductive LL where
  | nil
  | nat (a : Nat) (r : LL)
  | st (x : StK) (z r : LL)
  | tr (x : Sem Fin) (r : LL)
  | sub (x r : LL)
noncomputable def Ob.left (o : Ob) : LL := @Ob.rec (fun _ => LL) .nil (.nat 0 .nil) (fun a _ _ r => .nat a r) (fun x _ _ _ z r => .st x z r) (fun x _ _ r => .tr x r) (fun _ _ x r => .sub x r) o
noncomputable def Ob.right (o : Ob) : LL := @Ob.rec (fun _ => LL) .nil (.nat 1 .nil) (fun _ e _ r => .nat e r) (fun _ y _ _ z r => .st y z r) (fun _ y _ r => .tr y r) (fun _ _ x r => .sub x r) o

structure St where
  k : StK
  o : Nat
  os : List Nat
  ob : Ob

noncomputable def nth : List Nat → Nat → Nat
  | [], _ => 0
  | a :: l, i => match i with
    | 0 => a
    | i + 1 => nth l i
noncomputable def addr (V : SV) (s : Nat) : Nat := match Nat.blt s V.nb with
  | true => V.base s
  | false => V.N + (s - V.nb)

abbrev Rest := BT → Nat → Nat → Nat → List Nat → Ob → St
abbrev Ty := Code → Pos → List KFr → Sem Fin → Rest

noncomputable def pop (o : Nat) (os : List Nat) (ob : Ob) (K : Nat → Nat → List Nat → Ob → St) : St := match Nat.beq o 0 with
  | false => K (o % 1024) (o / 1024) os ob
  | true => match os with
    | [] => K 0 0 [] ob
    | o :: os => K (o % 1024) (o / 1024) os (.sub ob .nil)

noncomputable def look (V : SV) (T : BT) (a d : Nat) : Option Obj := match d with
  | 0 => none
  | d + 1 => match d with
    | 0 => V.kt.get a
    | d + 1 => T.get d
noncomputable def owe (V : SV) (a d : Nat) (ob : Ob) : Ob := match d with
  | 0 => ob
  | d + 1 => match d with
    | 0 => ob
    | d + 1 => .eq a (addr V d) ob

noncomputable def keyIs (s : Str) (v : Value) : Bool := match v with
  | .str y _ => Fast.sEq y s
  | _ => false
noncomputable def allStr : List DictEntry → Bool
  | [] => true
  | e :: l => match e.key with
    | .str .. => allStr l
    | _ => false
noncomputable def didx (s : Str) : List DictEntry → Option Nat
  | [] => none
  | e :: l => match keyIs s e.key with
    | true => some 0
    | false => match didx s l with
      | some i => some (i + 1)
      | none => none
noncomputable def dval : List DictEntry → Nat → Option Value
  | [], _ => none
  | e :: l, i => match i with
    | 0 => some e.val
    | i + 1 => dval l i
noncomputable def dfind (s : Str) (l : List DictEntry) : Option Value := match didx s l with
  | some i => dval l i
  | none => none
noncomputable def idIs (n : Nat) (id : String) : Bool := Nat.beq (S.codeS id) n
noncomputable def nGet : Nat := 128106587276438692081757506308483082853
noncomputable def nGetD : Nat := 8459563503104322149
noncomputable def nIn : Nat := 32795317678217157189674408721764466322021
noncomputable def nSet : Nat := 128106587276438692082622197436938218085
noncomputable def nInit : Nat := 8395602628992143088491114474801878304914019
noncomputable def nDict : Nat := 1969515109
noncomputable def nBA : Nat := 2257596917697066924643
noncomputable def holders : List Nat := [9881949375840847474946302621387311203773037, 1954752953420486509667839219168885, 7635753724298775428390248016485,   658817450924308401064253573046708910614593500789, 2573505667673079691657240519713706682339322469,   43592447540305469358370481499844552983096817498256421391241517478836374958180,   1021693785636180792737260203462157464436348982798866235732916349039868711966808030306567044558948,   154871484668836492056588310830118406032176422784262015565000804,   665167961735618123754410473233558780167118329806981834906542116191697525,   604966736987642547096074689277415338072900099183282143523655,   154871484668836492056590666180893923152961128035820300714079847,   154871337164622183513601241057978931394509986674757276630218343,   36058833123807575479230170713117671936755512554912355, 2261905352834615600296328879592681485515455075,   32795239814362956761459727732316633922147, 8395581392478422324905090493686286438988387,   37948474676066309310571488023553429297651664247157856, 2417225208155624053365260280651445300763128928,   2619762639393042134921171463191304907674117216, 584579224629451902860482836794517567294042825824,   584579224629451906745754018222923351833583838304, 149652281505139687088072108212989157703567751013472,   2510748651704533656520691501229422094675138072186740302944,   2510748651704533656507399221271572935946100001583936857184,   2510748651704533662976751876756758489368928963968373908576, 149652281505139687007100926123411004682965833770080,   2510748651704533656520691420258240005096985051584823059552,   2510748651704533656507399140300390846367946980982019613792,   2510748651704533662976751795785576399790775943366456665184, 584579224629451902781254674280253229700498875488,   38310984065315760196674346043585815937106796725953632,   2760597336972049077685901222957733368647567678255526054417260178596960,   11856675279719642454767909112889869208629214928054149904590024514087014842262624]
noncomputable def inL (n : Nat) : List Nat → Bool
  | [] => false
  | a :: l => match Nat.beq a n with
    | true => true
    | false => inL n l
noncomputable def isHolder (c : Code) : Bool := match c with
  | .builtin id _ => inL (S.codeS id) holders
  | _ => false
noncomputable def entriesOf (x : Obj) : Option (List DictEntry) := match x with
  | ⟨c, d, dt, sl⟩ => match c with
    | .type n => match idIs nDict n with
      | true => match d with
        | none => match dt with
          | .dict es _ => match sl.toList with
            | [] => match allStr es.toList with
              | true => some es.toList
              | false => none
            | _ :: _ => none
          | _ => none
        | some _ => none
      | false => none
    | _ => none

noncomputable def stOK : List KFr → Bool
  | [] => true
  | f :: κ => !isHolder f.c && stOK κ
noncomputable def belOK : List (Code × Pos) → Bool
  | [] => true
  | f :: κ => !isHolder f.1 && belOK κ

noncomputable def ans (V : SV) (h d : Nat) (c' : Code) (T : BT) : Option (Value × BT) := match c' with
  | .call f as => match f with
    | .builtin id => match as with
      | ⟨ps, kw⟩ => match kw with
        | [] => match ps with
          | .ref a :: q :: r => match look V T a d with
            | some x => match entriesOf x with
              | some es => match q with
                | .str s _ => match h with
                  | 2 => match r with
                    | [] => match idIs nGet id with
                      | true => match dfind s es with
                        | some v => some (v, T)
                        | none => none
                      | false => none
                    | _ => none
                  | 3 => match r with
                    | [] => match idIs nGetD id with
                      | true => match Nat.beq a sysModules with
                        | false => match dfind s es with
                          | some v => some (v, T)
                          | none => some (.none, T)
                        | true => none
                      | false => none
                    | _ => none
                  | 4 => match r with
                    | [] => match idIs nIn id with
                      | true => match Nat.beq a sysModules with
                        | false => some (.bool (dfind s es).isSome, T)
                        | true => none
                      | false => none
                    | _ => none
                  | 5 => match r with
                    | [v] => match idIs nSet id with
                      | true => match d with
                        | 0 => none
                        | d + 1 => match d with
                          | 0 => none
                          | d + 1 => match didx s es with
                            | some i => some (.none, T.set d (Obj.mapDict fun es => es.modify i fun e => { e with val := v }))
                            | none => none
                      | false => none
                    | _ => none
                  | _ => none
                | _ => none
              | none => none
            | none => none
          | _ => none
        | _ :: _ => none
    | _ => none
  | _ => none

noncomputable def emptyBA (x : Obj) : Bool := match x with
  | ⟨c, d, dt, sl⟩ => match c with
    | .type ty => match idIs nBA ty with
      | true => match d with
        | none => match dt with
          | .bytearray b e => match b.toList with
            | [] => match e with
              | 0 => match sl.toList with
                | [] => true
                | _ :: _ => false
              | _ + 1 => false
            | _ :: _ => false
          | _ => false
        | some _ => false
      | false => false
    | _ => false
noncomputable def inB (n : Int) : Bool := match n with
  | .ofNat k => match Nat.ble 1 k with
    | true => Nat.ble k 64
    | false => false
  | .negSucc _ => false
noncomputable def ansB (V : SV) (d : Nat) (c : Code) (κ : List KFr) (c' : Code) (T : BT) : Option BT := match c' with
  | .call f as => match f with
    | .builtin id => match as with
      | ⟨ps, kw⟩ => match kw with
        | [] => match ps with
          | [.ref _, .int n _] => match idIs nInit id with
            | true => match d with
              | 0 => none
              | d + 1 => match d with
                | 0 => none
                | d + 1 => match T.get d with
                  | some x => match emptyBA x with
                    | true => match inB n with
                      | true => match !isHolder c && (stOK κ && belOK V.bel) with
                        | true => some ((T.set d (Obj.mapBytearray fun _ => #[])).set d (Obj.mapBytearray fun _ => Array.replicate n.toNat 0))
                        | false => none
                      | false => none
                    | false => none
                  | none => none
            | false => none
          | _ => none
        | _ :: _ => none
    | _ => none
  | _ => none

noncomputable def veq (x y : Value) : Option Bool := match x with
  | .str a _ => match y with
    | .str b _ => some (Fast.sEq a b)
    | _ => none
  | .int a _ => match y with
    | .int b _ => some (decide (a = b))
    | _ => none
  | .bytes a _ => match y with
    | .bytes b _ => some (Nat.beq a.size b.size && a.toList.beq b.toList)
    | _ => none
  | _ => none
noncomputable def veqs : List Value → List Value → Option Bool
  | [], [] => some true
  | x :: l, y :: r => match veq x y with
    | some b => match veqs l r with
      | some b' => some (b && b')
      | none => none
    | none => none
  | _, _ => none
noncomputable def seqOf (n : Nat) (x : Obj) : Option (List Value) := match x with
  | ⟨c, d, dt, sl⟩ => match c with
    | .type ty => match idIs n ty with
      | true => match d with
        | none => match dt with
          | .seq vs _ => match sl.toList with
            | [] => some vs.toList
            | _ :: _ => none
          | _ => none
        | some _ => none
      | false => none
    | _ => none
noncomputable def nList : Nat := 1970563693
noncomputable def nTuple : Nat := 439922816629
noncomputable def nListIn : Nat := 32795317678217157189674408721764467370605
noncomputable def nListNe : Nat := 116512115458775698011089517
noncomputable def nTupleNe : Nat := 29827101557446578626297427573
noncomputable def inT (V : SV) (T : BT) (e : Nat) (ys : List Value) : List Value → List Nat → Ob → Option (Bool × Ob)
  | [], _, ob => some (false, ob)
  | v :: l, fs, ob => match fs with
    | [] => none
    | f :: fs => match v with
      | .ref z => match f with
        | 0 => none
        | f + 1 => match f with
          | 0 => none
          | f + 1 => match Nat.beq f e with
            | true => none
            | false => match T.get f with
              | some o => match seqOf nTuple o with
                | some zs => match veqs zs ys with
                  | some b => match inT V T e ys l fs (.eq z (addr V f) ob) with
                    | some (b', ob) => some (b || b', ob)
                    | none => none
                  | none => none
                | none => none
              | none => none
      | _ => none
noncomputable def neL : List Value → List Value → Ob → Option (Bool × Ob)
  | [], [], ob => some (false, ob)
  | x :: l, y :: r, ob => match x with
    | .ref a => match y with
      | .ref b => neL l r (.eq a b ob)
      | _ => none
    | x => match veq x y with
      | some q => match neL l r ob with
        | some (n, ob) => some (!q || n, ob)
        | none => none
      | none => none
  | _, _, _ => none
noncomputable def ansE (V : SV) (h d e f g n : Nat) (c' : Code) (T : BT) (ob : Ob) : Option (Bool × Ob) := match c' with
  | .call fn as => match fn with
    | .builtin id => match as with
      | ⟨ps, kw⟩ => match kw with
        | [] => match ps with
          | [.ref a, .ref b] => match look V T a d with
            | some x => match look V T b e with
              | some y => match h with
                | 5 => match Nat.blt n 900 with
                  | true => match idIs nListIn id with
                    | true => match seqOf nList x with
                      | some xs => match seqOf nTuple y with
                        | some ys => match e with
                          | 0 => none
                          | e + 1 => match e with
                            | 0 => none
                            | e + 1 => inT V T e ys xs [f, g] (owe V a d (.eq b (addr V e) ob))
                        | none => none
                      | none => none
                    | false => none
                  | false => none
                | 6 => match idIs nListNe id with
                  | true => match seqOf nList x with
                    | some xs => match seqOf nList y with
                      | some ys => match Nat.beq xs.length ys.length with
                        | true => neL xs ys (owe V a d (owe V b e ob))
                        | false => some (true, owe V a d (owe V b e ob))
                      | none => none
                    | none => none
                  | false => none
                | 7 => match idIs nTupleNe id with
                  | true => match seqOf nTuple x with
                    | some xs => match seqOf nTuple y with
                      | some ys => match veqs xs ys with
                        | some q => some (!q, owe V a d (owe V b e ob))
                        | none => none
                      | none => none
                    | none => none
                  | false => none
                | _ => none
              | none => none
            | none => none
          | _ => none
        | _ :: _ => none
    | _ => none
  | _ => none

noncomputable def nEnum : Nat := 1890026345452306591590
noncomputable def lotOK (x : Obj) : Option Nat := match x with
  | ⟨c, _, dt, _⟩ => match c with
    | .type n => match idIs nEnum n with
      | true => match dt with
        | .fields vs => match vs.toList with
          | .int z tk :: _ => match tk with
            | 0 => match z with
              | .ofNat a => some a
              | .negSucc _ => none
            | _ + 1 => none
          | _ => none
        | _ => none
      | false => none
    | _ => none
noncomputable def lotF : Obj → Obj := Obj.mapFields fun vs => vs.setIfInBounds 0 .none
noncomputable def lotRest (c : Code) (v : Value) : Sem Fin := match c with
  | .compLoop e depth _ acc env => match e with
    | .ListComp elt gens _ _ => match gens with
      | g :: more => match more with
        | [] => match depth with
          | 0 => PySem.W.R.bindR (PySem.W.Fast.tw17772580674575903948 g.target env v) fun _ =>
            PySem.W.R.bindR (PySem.W.R.bindR (PySem.W.Fast.tw14044960220447912780 elt env) fun x =>
              PySem.W.R.bindR (PySem.W.Fast.tw11478286150595567475 (.builtin PySem.W.SL.s2931692696383300276x11) [acc, x]) fun _ => .pure ()) fun _ =>
              PySem.W.Fast.tw12377390311714414960 c
          | _ + 1 => .raise .none
        | _ :: _ => .raise .none
      | [] => .raise .none
    | _ => .raise .none
  | _ => .raise .none
noncomputable def lotH (c : Code) (x : Value) : Sem Unit := match c with
  | .compLoop _ _ _ _ env => PySem.W.R.bindR (PySem.W.Fast.tw17872113653443481271 x env) fun _ => PySem.W.Fast.tw1623429502029203251 x
  | _ => .pure ()
noncomputable def lotN (c : Code) (a : Nat) : Sem Fin := PySem.W.R.onRaiseR (lotRest c (.ref a)) (lotH c)
noncomputable def lotT (c : Code) (r a : Nat) : Sem Fin :=
  PySem.W.R.onRaiseR (PySem.W.R.bindR (PySem.W.Fast.tw1578499551869305889 (.Tuple [] 0 default) (.ref r) (.ref a)) fun _ => lotRest c (.ref a)) (lotH c)

noncomputable def obT (x y : Obj) (ob : Ob) : Ob := .tr (.alloc x fun _ => .raise .none) (.alloc y fun _ => .raise .none) ob
noncomputable def hold (T : BT) : List (Nat × Obj) → Ob → Ob
  | [], ob => ob
  | x :: l, ob => match T.get x.1 with
    | some o => obT o x.2 (hold T l ob)
    | none => .bad
noncomputable def setAll : List (Nat × Obj) → BT → BT
  | [], T => T
  | x :: l, T => setAll l (T.set x.1 fun _ => x.2)
noncomputable def insAll (n : Nat) : List Obj → BT → BT
  | [], T => T
  | x :: l, T => insAll (n + 1) l (T.ins n x)
noncomputable def insOK (n : Nat) : List Obj → BT → Ob → Ob
  | [], _, ob => ob
  | x :: l, T, ob => match (T.ins n x).get n with
    | some _ => insOK (n + 1) l (T.ins n x) ob
    | none => .bad
noncomputable def codesOb : List Code → List Code → Ob → Ob
  | [], [], ob => ob
  | c :: l, d :: r, ob => .tr (.pure (.again c)) (.pure (.again d)) (codesOb l r ob)
  | _, _, _ => .bad
noncomputable def codesOpt (l : List Code) (st : Option (List Code)) (ob : Ob) : Ob := match st with
  | none => ob
  | some r => codesOb l r ob
noncomputable def badS (n : Nat) : St := ⟨⟨.builtin "" {}, default, [], .raise .none, .nil, 0, 0⟩, n, [], .bad⟩
noncomputable def stepS0 (V : SV) (frk : Nat → (Setting → Sem Fin) → Ty → Code → Pos → List KFr → Rest) (ih : Ty) (c : Code) (p : Pos) (κ : List KFr) (t : Sem Fin) : Rest := fun T m i o os ob =>
  let stop (n : Nat) : St := badS n
  match t with
  | .pure fin => match fin with
    | .done f => match κ with
      | [] => stop 1
      | g :: κ => ih g.c g.p κ (g.k (.ok f)) T m i o os ob
    | .again c' => match c'.quiet with
      | true => ih c' p κ (V.D c') T m i o os ob
      | false => stop 2
  | .raise e => match κ with
      | [] => stop 3
      | g :: κ => ih g.c g.p κ (g.k (.error e)) T m i o os ob
  | .rule _ k => ih c p κ (k ()) T m i o os ob
  | .at p k => ih c p κ (k ()) T m i o os ob
  | .point _ k => ih c p κ (k ()) T m i o os ob
  | .ask k => pop o os ob fun d o os ob => match d with
    | 0 => stop 4
    | d + 1 => match d with
      | 0 => ih c p κ (k ⟨V.prog, V.w.params⟩) T m i o os ob
      | d + 1 => frk d k ih c p κ T m i o os ob
  | .load a h k => pop o os ob fun d o os ob => match Nat.beq d 1023 with
    | false => match look V T a d with
      | some x => ih c p κ (k x) T m i o os (owe V a d ob)
      | none => stop 5
    | true => pop o os ob fun d o os ob => match d with
      | 0 => stop 19
      | d + 1 => match d with
        | 0 => stop 20
        | d + 1 => match T.get d with
          | some x => match lotOK x with
            | some b => ih c p κ (lotN c b) (T.set d lotF) m i o os (.tr (.load a h k) (lotT c a b) (.eq a (addr V d) ob))
            | none => stop 21
          | none => stop 22
  | .alloc x k => match x.isFreed with
    | true => stop 6
    | false => match (T.ins (V.nb + m) x).get (V.nb + m) with
      | some _ => ih c p κ (k (V.N + m)) (T.ins (V.nb + m) x) (m + 1) i o os ob
      | none => stop 18
  | .update a _ f k => pop o os ob fun d o os ob => match d with
    | 0 => stop 7
    | d + 1 => match d with
      | 0 => stop 8
      | d + 1 => match T.get d with
        | some x => match (f x).isFreed with
          | true => stop 9
          | false => ih c p κ (k ()) (T.set d f) m i o os (.eq a (addr V d) ob)
        | none => stop 10
  | .fresh k => match V.inc i with
    | 0 => stop 24
    | d + 1 => match d with
      | 0 => ih c p κ (k (V.tok i)) T m (i + 1) o os ob
      | _ + 1 => stop 25
  | .handled own k => match own with
    | false => ih c p κ (k none) T m i o os ob
    | true => stop 11
  | .stack k => ih c p κ (k ((c, p) :: (κ.map fun f => (f.c, f.p)) ++ V.bel)) T m i o os ob
  | .call c' hd _ _ k => match hd with
    | some _ => stop 12
    | none => pop o os ob fun h o os ob => match h with
      | 0 => stop 13
      | h + 1 => match h with
        | 0 => ih c' p (⟨k, c, p⟩ :: κ) (V.D c') T m i o os ob
        | h + 1 => pop o os ob fun d o os ob => match Nat.ble h 3 with
          | true => match ans V (h + 2) d c' T with
            | some (v, T) => ih c p κ (k (.ok (.ret v))) T m (i + 1) o os (.eq (V.inc i) 1 <| match c' with | .call _ ⟨.ref a :: _, _⟩ => owe V a d ob | _ => ob)
            | none => stop 14
          | false => match h with
            | 4 => match ansB V d c κ c' T with
              | some T => ih c p κ (k (.ok (.ret .none))) T m i o os (match c' with | .call _ ⟨.ref a :: _, _⟩ => owe V a d ob | _ => ob)
              | none => stop 15
            | 8 => match V.sp d with
              | none => stop 27
              | some ⟨st, c₀, i₀, m₀, j, pre, v, up, new⟩ => match Nat.beq i i₀ && Nat.beq m m₀ with
                | true => ih c p κ (k (.ok (.ret v))) (insAll (V.nb + m) new (setAll up T)) (m + new.length) (i + j) o os (hold T pre (.tr (.pure (.again c')) (.pure (.again c₀)) (codesOpt (c :: κ.map fun f => f.c) st (insOK (V.nb + m) new (setAll up T) ob))))
                | false => stop 26
            | h => pop o os ob fun e o os ob => pop o os ob fun f o os ob => pop o os ob fun g o os ob => match ansE V h d e f g (κ.length + V.bel.length) c' T ob with
              | some (b, ob) => ih c p κ (k (.ok (.ret (.bool b)))) T m i o os ob
              | none => stop 23
  | _ => stop 16
noncomputable def noFork : Nat → (Setting → Sem Fin) → Ty → Code → Pos → List KFr → Rest := fun _ k _ c p κ T m i _ os _ => ⟨⟨c, p, κ, .ask k, T, m, i⟩, 17, os, .bad⟩
noncomputable def getF (T : BT) : Nat → Option Obj := @BT.rec (fun _ => Nat → Option Obj) (fun _ => none)
  (fun v _ _ gl gr i => @Bool.rec (fun _ => Option Obj) (@Bool.rec (fun _ => Option Obj) (gr (Nat.sub (Nat.div i 2) 1)) (gl (Nat.div i 2)) (Nat.beq (Nat.mod i 2) 1)) (some v) (Nat.beq i 0)) T
noncomputable def setF (T : BT) : Nat → (Obj → Obj) → BT := @BT.rec (fun _ => Nat → (Obj → Obj) → BT) (fun _ _ => .nil)
  (fun v l r sl sr i f => @Bool.rec (fun _ => BT) (@Bool.rec (fun _ => BT) (.node v l (sr (Nat.sub (Nat.div i 2) 1) f)) (.node v (sl (Nat.div i 2) f) r) (Nat.beq (Nat.mod i 2) 1)) (.node (f v) l r) (Nat.beq i 0)) T
noncomputable def insF (T : BT) : Nat → Obj → BT := @BT.rec (fun _ => Nat → Obj → BT) (fun _ o => .node o .nil .nil)
  (fun v l r sl sr i o => @Bool.rec (fun _ => BT) (@Bool.rec (fun _ => BT) (.node v l (sr (Nat.sub (Nat.div i 2) 1) o)) (.node v (sl (Nat.div i 2) o) r) (Nat.beq (Nat.mod i 2) 1)) (.node o l r) (Nat.beq i 0)) T
theorem getF_eq : ∀ (T : BT) (i : Nat), getF T i = T.get i
  | .nil, _ => rfl
  | .node v l r, i => by
    show @Bool.rec (fun _ => Option Obj) (@Bool.rec (fun _ => Option Obj) (getF r (i / 2 - 1)) (getF l (i / 2)) (Nat.beq (i % 2) 1)) (some v) (Nat.beq i 0) =
      (match Nat.beq i 0 with | true => some v | false => match Nat.beq (i % 2) 1 with | true => l.get (i / 2) | false => r.get (i / 2 - 1))
    rw [getF_eq l, getF_eq r]
    cases Nat.beq i 0 with
    | true => rfl
    | false => cases Nat.beq (i % 2) 1 <;> rfl
theorem setF_eq : ∀ (T : BT) (i : Nat) (f : Obj → Obj), setF T i f = T.set i f
  | .nil, _, _ => rfl
  | .node v l r, i, f => by
    show @Bool.rec (fun _ => BT) (@Bool.rec (fun _ => BT) (.node v l (setF r (i / 2 - 1) f)) (.node v (setF l (i / 2) f) r) (Nat.beq (i % 2) 1)) (.node (f v) l r) (Nat.beq i 0) =
      (match Nat.beq i 0 with | true => .node (f v) l r | false => match Nat.beq (i % 2) 1 with | true => .node v (l.set (i / 2) f) r | false => .node v l (r.set (i / 2 - 1) f))
    rw [setF_eq l, setF_eq r]
    cases Nat.beq i 0 with
    | true => rfl
    | false => cases Nat.beq (i % 2) 1 <;> rfl
theorem insF_eq : ∀ (T : BT) (i : Nat) (o : Obj), insF T i o = T.ins i o
  | .nil, _, _ => rfl
  | .node v l r, i, o => by
    show @Bool.rec (fun _ => BT) (@Bool.rec (fun _ => BT) (.node v l (insF r (i / 2 - 1) o)) (.node v (insF l (i / 2) o) r) (Nat.beq (i % 2) 1)) (.node o l r) (Nat.beq i 0) =
      (match Nat.beq i 0 with | true => .node o l r | false => match Nat.beq (i % 2) 1 with | true => .node v (l.ins (i / 2) o) r | false => .node v l (r.ins (i / 2 - 1) o))
    rw [insF_eq l, insF_eq r]
    cases Nat.beq i 0 with
    | true => rfl
    | false => cases Nat.beq (i % 2) 1 <;> rfl
noncomputable def popMore (os : List Nat) (ob : Ob) (K : Nat → Nat → List Nat → Ob → St) : St := @List.rec Nat (fun _ => St) (K 0 0 [] ob) (fun o os _ => K (Nat.mod o 1024) (Nat.div o 1024) os (.sub ob .nil)) os
noncomputable def popF (o : Nat) (os : List Nat) (ob : Ob) (K : Nat → Nat → List Nat → Ob → St) : St := @Bool.rec (fun _ => St) (K (Nat.mod o 1024) (Nat.div o 1024) os ob) (popMore os ob K) (Nat.beq o 0)
theorem popF_eq (o : Nat) (os : List Nat) (ob : Ob) (K : Nat → Nat → List Nat → Ob → St) : popF o os ob K = pop o os ob K := by
  unfold popF pop
  cases Nat.beq o 0 with
  | false => rfl
  | true => cases os <;> rfl
noncomputable def getK (T : X.KT) : Nat → Option Obj := @X.KT.rec (fun _ => Nat → Option Obj) (fun _ => none)
  (fun v _ _ gl gr i => @Bool.rec (fun _ => Option Obj) (@Bool.rec (fun _ => Option Obj) (gr (Nat.sub (Nat.div i 2) 1)) (gl (Nat.div i 2)) (Nat.beq (Nat.mod i 2) 1)) v (Nat.beq i 0)) T
theorem getK_eq : ∀ (T : X.KT) (i : Nat), getK T i = T.get i
  | .nil, _ => rfl
  | .node v l r, i => by
    show @Bool.rec (fun _ => Option Obj) (@Bool.rec (fun _ => Option Obj) (getK r (i / 2 - 1)) (getK l (i / 2)) (Nat.beq (i % 2) 1)) v (Nat.beq i 0) =
      (match Nat.beq i 0 with | true => v | false => match Nat.beq (i % 2) 1 with | true => l.get (i / 2) | false => r.get (i / 2 - 1))
    rw [getK_eq l, getK_eq r]
    cases Nat.beq i 0 with
    | true => rfl
    | false => cases Nat.beq (i % 2) 1 <;> rfl
noncomputable def lookF (V : SV) (T : BT) (a d : Nat) : Option Obj := @Nat.rec (fun _ => Option Obj) none (fun d _ => @Nat.rec (fun _ => Option Obj) (getK V.kt a) (fun d _ => getF T d) d) d
noncomputable def oweF (V : SV) (a d : Nat) (ob : Ob) : Ob := @Nat.rec (fun _ => Ob) ob (fun d _ => @Nat.rec (fun _ => Ob) ob (fun d _ => .eq a (addr V d) ob) d) d
theorem lookF_eq (V : SV) (T : BT) (a d : Nat) : lookF V T a d = look V T a d := by
  match d with
  | 0 => rfl
  | 1 => exact getK_eq V.kt a
  | d + 2 => exact getF_eq T d
theorem oweF_eq (V : SV) (a d : Nat) (ob : Ob) : oweF V a d ob = owe V a d ob := by
  match d with
  | 0 => rfl
  | 1 => rfl
  | d + 2 => rfl
section
variable (V : SV) (frk : Nat → (Setting → Sem Fin) → Ty → Code → Pos → List KFr → Rest) (ih : Ty) (c : Code) (p : Pos) (κ : List KFr)
noncomputable def badR (n : Nat) : Rest := fun _ _ _ _ _ _ => badS n
noncomputable def stPure (fin : Fin) : Rest := match fin with
  | .done f => @List.rec KFr (fun _ => Rest) (badR 1) (fun g κ _ => ih g.c g.p κ (g.k (.ok f))) κ
  | .again c' => @Bool.rec (fun _ => Rest) (badR 2) (ih c' p κ (V.D c')) c'.quiet
noncomputable def stRaise (e : Value) : Rest := @List.rec KFr (fun _ => Rest) (badR 3) (fun g κ _ => ih g.c g.p κ (g.k (.error e))) κ
noncomputable def askK (k : Setting → Sem Fin) (T : BT) (m i : Nat) (d o : Nat) (os : List Nat) (ob : Ob) : St := match d with
  | 0 => badS 4
  | d + 1 => match d with
    | 0 => ih c p κ (k ⟨V.prog, V.w.params⟩) T m i o os ob
    | d + 1 => frk d k ih c p κ T m i o os ob
noncomputable def stAsk (k : Setting → Sem Fin) : Rest := fun T m i o os ob => popF o os ob (askK V frk ih c p κ k T m i)
noncomputable def lotK (a : Addr) (h : Option Value) (k : Obj → Sem Fin) (T : BT) (m i : Nat) (d o : Nat) (os : List Nat) (ob : Ob) : St := match d with
  | 0 => badS 19
  | d + 1 => match d with
    | 0 => badS 20
    | d + 1 => match getF T d with
      | some x => match lotOK x with
        | some b => ih c p κ (lotN c b) (setF T d lotF) m i o os (.tr (.load a h k) (lotT c a b) (.eq a (addr V d) ob))
        | none => badS 21
      | none => badS 22
noncomputable def loadK (a : Addr) (h : Option Value) (k : Obj → Sem Fin) (T : BT) (m i : Nat) (d o : Nat) (os : List Nat) (ob : Ob) : St :=
  @Bool.rec (fun _ => St) (@Option.rec Obj (fun _ => St) (badS 5) (fun x => ih c p κ (k x) T m i o os (oweF V a d ob)) (lookF V T a d))
    (popF o os ob (lotK V ih c p κ a h k T m i)) (Nat.beq d 1023)
noncomputable def stLoad (a : Addr) (h : Option Value) (k : Obj → Sem Fin) : Rest := fun T m i o os ob => popF o os ob (loadK V ih c p κ a h k T m i)
noncomputable def stAlloc (x : Obj) (k : Addr → Sem Fin) : Rest := fun T m i o os ob =>
  @Bool.rec (fun _ => St) (@Option.rec Obj (fun _ => St) (badS 18) (fun _ => ih c p κ (k (V.N + m)) (insF T (V.nb + m) x) (m + 1) i o os ob) (getF (insF T (V.nb + m) x) (V.nb + m)))
    (badS 6) x.isFreed
noncomputable def updK (a : Addr) (f : Obj → Obj) (k : Unit → Sem Fin) (T : BT) (m i : Nat) (d o : Nat) (os : List Nat) (ob : Ob) : St := match d with
  | 0 => badS 7
  | d + 1 => match d with
    | 0 => badS 8
    | d + 1 => @Option.rec Obj (fun _ => St) (badS 10) (fun x => @Bool.rec (fun _ => St) (ih c p κ (k ()) (setF T d f) m i o os (.eq a (addr V d) ob)) (badS 9) (f x).isFreed) (getF T d)
noncomputable def stUpd (a : Addr) (f : Obj → Obj) (k : Unit → Sem Fin) : Rest := fun T m i o os ob => popF o os ob (updK V ih c p κ a f k T m i)
noncomputable def stFresh (k : Tok → Sem Fin) : Rest := fun T m i o os ob => match V.inc i with
  | 0 => badS 24
  | d + 1 => match d with
    | 0 => ih c p κ (k (V.tok i)) T m (i + 1) o os ob
    | _ + 1 => badS 25
noncomputable def stHandled (own : Bool) (k : Option Value → Sem Fin) : Rest := @Bool.rec (fun _ => Rest) (ih c p κ (k none)) (badR 11) own
noncomputable def stStack (k : List (Code × Pos) → Sem Fin) : Rest := ih c p κ (k ((c, p) :: (κ.map fun f => (f.c, f.p)) ++ V.bel))
noncomputable def callE (c' : Code) (k : Result → Sem Fin) (T : BT) (m i : Nat) (h d e f g : Nat) (o : Nat) (os : List Nat) (ob : Ob) : St :=
  match ansE V h d e f g (κ.length + V.bel.length) c' T ob with
  | some (b, ob) => ih c p κ (k (.ok (.ret (.bool b)))) T m i o os ob
  | none => badS 23
noncomputable def callS (c' : Code) (k : Result → Sem Fin) (T : BT) (m i : Nat) (S : Option Sp) (o : Nat) (os : List Nat) (ob : Ob) : St := match S with
  | none => badS 27
  | some ⟨st, c₀, i₀, m₀, j, pre, v, up, new⟩ => match Nat.beq i i₀ && Nat.beq m m₀ with
    | true => ih c p κ (k (.ok (.ret v))) (insAll (V.nb + m) new (setAll up T)) (m + new.length) (i + j) o os (hold T pre (.tr (.pure (.again c')) (.pure (.again c₀)) (codesOpt (c :: κ.map fun f => f.c) st (insOK (V.nb + m) new (setAll up T) ob))))
    | false => badS 26
noncomputable def callB (c' : Code) (k : Result → Sem Fin) (T : BT) (m i : Nat) (h d o : Nat) (os : List Nat) (ob : Ob) : St := match h with
  | 4 => match ansB V d c κ c' T with
    | some T => ih c p κ (k (.ok (.ret .none))) T m i o os (match c' with | .call _ ⟨.ref a :: _, _⟩ => owe V a d ob | _ => ob)
    | none => badS 15
  | 8 => callS V ih c p κ c' k T m i (V.sp d) o os ob
  | h => popF o os ob fun e o os ob => popF o os ob fun f o os ob => popF o os ob fun g o os ob => callE V ih c p κ c' k T m i h d e f g o os ob
noncomputable def callD (c' : Code) (k : Result → Sem Fin) (T : BT) (m i : Nat) (h d o : Nat) (os : List Nat) (ob : Ob) : St :=
  @Bool.rec (fun _ => St) (callB V ih c p κ c' k T m i h d o os ob)
    (match ans V (h + 2) d c' T with
      | some (v, T) => ih c p κ (k (.ok (.ret v))) T m (i + 1) o os (.eq (V.inc i) 1 <| match c' with | .call _ ⟨.ref a :: _, _⟩ => owe V a d ob | _ => ob)
      | none => badS 14) (Nat.ble h 3)
noncomputable def callK (c' : Code) (k : Result → Sem Fin) (T : BT) (m i : Nat) (h o : Nat) (os : List Nat) (ob : Ob) : St := match h with
  | 0 => badS 13
  | h + 1 => match h with
    | 0 => ih c' p (⟨k, c, p⟩ :: κ) (V.D c') T m i o os ob
    | h + 1 => popF o os ob (callD V ih c p κ c' k T m i h)
noncomputable def stCall (c' : Code) (hd : Option Value) (k : Result → Sem Fin) : Rest := @Option.rec Value (fun _ => Rest)
  (fun T m i o os ob => popF o os ob (callK V ih c p κ c' k T m i)) (fun _ => badR 12) hd
end
abbrev StepTy : Type := SV → (Nat → (Setting → Sem Fin) → Ty → Code → Pos → List KFr → Rest) → Ty → Code → Pos → List KFr → Rest
noncomputable def badZ : StepTy := fun _ _ _ _ _ _ => badR 16
noncomputable def stepR (t : Sem Fin) : StepTy := @Sem.rec Fin (fun _ => StepTy)
  (fun f V _ ih _ p κ => stPure V ih p κ f) (fun e _ _ ih _ _ κ => stRaise ih κ e) (fun _ => badZ) (fun _ => badZ)
  (fun _ k _ _ _ ih c p κ => ih c p κ (k ())) (fun q k _ _ _ ih c _ κ => ih c q κ (k ())) (fun a h k _ V _ ih c p κ => stLoad V ih c p κ a h k) (fun a _ f k _ V _ ih c p κ => stUpd V ih c p κ a f k) (fun x k _ V _ ih c p κ => stAlloc V ih c p κ x k)
  (fun _ _ _ => badZ) (fun _ k _ _ _ ih c p κ => ih c p κ (k ())) (fun _ _ _ => badZ) (fun k _ V _ ih c p κ => stFresh V ih c p κ k) (fun k _ V frk ih c p κ => stAsk V frk ih c p κ k)
  (fun _ _ _ _ => badZ) (fun _ _ _ _ => badZ) (fun c' hd _ _ k _ V _ ih c p κ => stCall V ih c p κ c' hd k) (fun own k _ _ _ ih c p κ => stHandled ih c p κ own k)
  (fun _ _ _ => badZ) (fun _ _ _ => badZ) (fun _ _ _ _ _ => badZ) (fun _ _ _ _ _ => badZ)
  (fun k _ V _ ih c p κ => stStack V ih c p κ k) (fun _ _ _ => badZ) (fun _ _ => badZ) (fun _ _ _ _ _ _ => badZ) t
noncomputable def stepS (V : SV) (frk : Nat → (Setting → Sem Fin) → Ty → Code → Pos → List KFr → Rest) (ih : Ty) (c : Code) (p : Pos) (κ : List KFr) (t : Sem Fin) : Rest := stepR t V frk ih c p κ
theorem stepS_eq (V : SV) (frk : Nat → (Setting → Sem Fin) → Ty → Code → Pos → List KFr → Rest) (ih : Ty) (c : Code) (p : Pos) (κ : List KFr) (t : Sem Fin) (T : BT) (m i o : Nat) (os : List Nat) (ob : Ob) :
    stepS V frk ih c p κ t T m i o os ob = stepS0 V frk ih c p κ t T m i o os ob := by
  cases t with
  | pure fin => cases fin with
    | done f => cases κ <;> rfl
    | again c' =>
      show @Bool.rec (fun _ => Rest) _ _ c'.quiet T m i o os ob = _
      unfold stepS0
      dsimp only
      cases c'.quiet <;> rfl
  | raise e => cases κ <;> rfl
  | ask k => exact popF_eq ..
  | handled own k => cases own <;> rfl
  | load a h k =>
    refine (popF_eq ..).trans ?_
    unfold stepS0
    dsimp only
    congr 1
    funext d o os ob
    unfold loadK
    rw [lookF_eq, oweF_eq, popF_eq]
    cases Nat.beq d 1023 with
    | false => cases look V T a d <;> rfl
    | true =>
      show pop o os ob _ = pop o os ob _
      congr 1
      funext d o os ob
      unfold lotK
      match d with
      | 0 => rfl
      | 1 => rfl
      | d + 2 =>
        dsimp only
        rw [getF_eq, setF_eq]
  | update a l f k =>
    refine (popF_eq ..).trans ?_
    unfold stepS0
    dsimp only
    congr 1
    funext d o os ob
    unfold updK
    match d with
    | 0 => rfl
    | 1 => rfl
    | d + 2 =>
      dsimp only
      rw [getF_eq, setF_eq]
      cases T.get d with
      | none => rfl
      | some x =>
        show @Bool.rec (fun _ => St) _ _ (f x).isFreed = _
        dsimp only
        cases (f x).isFreed <;> rfl
  | alloc x k =>
    show stAlloc V ih c p κ x k T m i o os ob = _
    unfold stAlloc stepS0
    dsimp only
    rw [insF_eq, getF_eq]
    cases x.isFreed with
    | true => rfl
    | false => cases (T.ins (V.nb + m) x).get (V.nb + m) <;> rfl
  | call c' hd gd l k => cases hd with
    | some _ => rfl
    | none =>
      refine (popF_eq ..).trans ?_
      unfold stepS0
      dsimp only
      congr 1
      funext h o os ob
      unfold callK
      match h with
      | 0 => rfl
      | 1 => rfl
      | h + 2 =>
        refine (popF_eq ..).trans ?_
        show pop o os ob _ = pop o os ob _
        congr 1
        funext d o os ob
        unfold callD
        cases Nat.ble h 3 with
        | true => rfl
        | false =>
          show callB V ih c p κ c' k T m i h d o os ob = _
          unfold callB callS callE
          simp only [popF_eq]
  | _ => rfl
noncomputable def run0 (V : SV) (n : Nat) (K : Ty) : Ty := @Nat.rec (fun _ => Ty) K (fun _ ih => stepS V noFork ih) n
noncomputable def rowOf (d : Nat) : String := match d with
  | 0 => "special-get-raises"
  | _ => "comprehension-iter-twice"
noncomputable def fork (V : SV) (sub : Nat → Ty → Ty) : Nat → (Setting → Sem Fin) → Ty → Code → Pos → List KFr → Rest := fun d k ih c p κ T m i o os ob =>
  pop o os ob fun q₁ o os ob => pop o os ob fun q₂ o os ob =>
    sub (q₂ - 1) (fun c₂ p₂ κ₂ t₂ T₂ m₂ i₂ o os ob₂ =>
      sub (q₁ - 1) (fun c₁ p₁ κ₁ t₁ T₁ m₁ i₁ o os ob₁ =>
        ih c₁ p₁ κ₁ t₁ T₁ m₁ i₁ o os (.st ⟨c₁, p₁, κ₁, t₁, T₁, m₁, i₁⟩ ⟨c₂, p₂, κ₂, t₂, T₂, m₂, i₂⟩ ob₂ ob₁))
        c p κ (k ⟨V.prog, (V.w.withFollow (rowOf d) true).params⟩) T m i o os ob)
      c p κ (k ⟨V.prog, (V.w.withFollow (rowOf d) false).params⟩) T m i o os .nil
noncomputable def run1 (V : SV) (n : Nat) (K : Ty) : Ty := @Nat.rec (fun _ => Ty) K (fun _ ih => stepS V (fork V (run0 V)) ih) n
noncomputable def run2 (V : SV) (n : Nat) (K : Ty) : Ty := @Nat.rec (fun _ => Ty) K (fun _ ih => stepS V (fork V (run1 V)) ih) n
noncomputable def finE (exp : List (Nat × Obj)) (f : Flow) (mE iE : Nat) : Ty := fun c p κ t T m i o os ob => ⟨⟨c, p, κ, t, T, m, i⟩, o, os,
  match κ with
  | [] => match t with
    | .pure fin => match fin with
      | .done g => .tr (.pure (.done g)) (.pure (.done f)) (.eq m mE (.eq i iE (hold T exp ob)))
      | .again _ => .bad
    | _ => .bad
  | _ :: _ => .bad⟩
noncomputable def runE (V : SV) (n : Nat) (exp : List (Nat × Obj)) (f : Flow) (mE iE : Nat) : Ty := run2 V n (finE exp f mE iE)
noncomputable def fin : Ty := fun c p κ t T m i o os ob => ⟨⟨c, p, κ, t, T, m, i⟩, o, os, ob⟩
noncomputable def run (V : SV) (n : Nat) : Ty := run2 V n fin
noncomputable def mkT : List Obj → Nat → BT → BT
  | [], _, T => T
  | x :: l, j, T => mkT l (j + 1) (T.ins j x)
end
end Mine
end
section
set_option maxRecDepth 100000
set_option linter.unusedSectionVars false
open PySem PySem.W PySem.Calls PyProof.Rows
open PySem.Sem (wp)
namespace Mine

noncomputable def Ob.Holds : Ob → Prop
  | .nil => True
  | .bad => False
  | .eq a e r => a = e ∧ r.Holds
  | .st x y z r => x = y ∧ z.Holds ∧ r.Holds
  | .tr x y r => x = y ∧ r.Holds
  | .sub x r => x.Holds ∧ r.Holds
theorem Ob.holds_of : ∀ o : Ob, o.left = o.right → o.Holds
  | .nil, _ => trivial
  | .bad, h => by
    simp only [Ob.left, Ob.right, LL.nat.injEq] at h
    exact absurd h.1 (by decide)
  | .eq a e r, h => by
    simp only [Ob.left, Ob.right, LL.nat.injEq] at h
    exact ⟨h.1, Ob.holds_of r h.2⟩
  | .st x y z r, h => by
    simp only [Ob.left, Ob.right, LL.st.injEq] at h
    exact ⟨h.1, Ob.holds_of z h.2.1, Ob.holds_of r h.2.2⟩
  | .tr x y r, h => by
    simp only [Ob.left, Ob.right, LL.tr.injEq] at h
    exact ⟨h.1, Ob.holds_of r h.2⟩
  | .sub x r, h => by
    simp only [Ob.left, Ob.right, LL.sub.injEq] at h
    exact ⟨Ob.holds_of x h.1, Ob.holds_of r h.2⟩

structure Env0 where
  V : SV
  h₀ : Heap
  d : Drawn
  os : OsState
  own : Option Value
  past : Option Value
  R : Result → Shared → Prop

noncomputable def ctx (X : Env0) (κ : List KFr) (c : Code) : Ctx := ⟨c, none, X.own, (κ.map fun f => (f.c, f.p)) ++ X.V.bel, X.past⟩

structure Went (X : Env0) (s s' : Shared) (i' : Nat) (up : List (Nat × Obj)) (new : List Obj) : Prop where
  size : s'.heap.objs.size = s.heap.objs.size + new.length
  toks : s'.toks = X.V.tok i'
  upd : ∀ x ∈ up, s'.heap.get? (addr X.V x.1) = some x.2
  made : ∀ k x, new[k]? = some x → s'.heap.get? (s.heap.objs.size + k) = some x
  kept : ∀ b o, (∀ x ∈ up, addr X.V x.1 ≠ b) → s.heap.get? b = some o → s'.heap.get? b = some o
  gens : s'.gens = s.gens
  drawn : s'.drawn = s.drawn
  os : s'.os = s.os
noncomputable def SpOK (X : Env0) (S : Sp) : Prop := ∀ (κ : List KFr) (c : Code) (p p' : Pos) (s : Shared) (R : Result → Shared → Prop), (∀ l, S.st = some l → (c :: κ.map fun f => f.c) = l) → s.gens = #[] → (∀ b o, X.h₀.get? b = some o → (∀ j < X.V.nb, X.V.base j ≠ b) → s.heap.get? b = some o) → s.heap.objs.size = X.V.N + S.m → s.toks = X.V.tok S.i → (∀ x ∈ S.pre, s.heap.get? (addr X.V x.1) = some x.2) →
  (∀ s', Went X s s' (S.i + S.j) S.up S.new → R (.ok (.ret S.v)) s') → wpCode (model X.V.prog X.V.w) ((ctx X κ c).enter S.c none p) R p' s

structure Env0.OK (X : Env0) : Prop where
  tk : ∀ i, X.V.tok (i + 1) = X.V.tok i + X.V.inc i
  sp : ∀ q S, X.V.sp q = some S → SpOK X S
  den : X.V.D = denote table
  kt : ∀ a o, X.V.kt.get a = some o → X.h₀.get? a = some o ∧ ∀ j < X.V.nb, X.V.base j ≠ a
  lt : ∀ j < X.V.nb, X.V.base j < X.V.N
  h0 : ∀ b o, X.h₀.get? b = some o → b < X.V.N
  ne : ∀ j < X.V.nb, ∀ k < X.V.nb, j ≠ k → X.V.base j ≠ X.V.base k

structure Rep (X : Env0) (T : BT) (m i : Nat) (s : Shared) : Prop where
  size : s.heap.objs.size = X.V.N + m
  toks : s.toks = X.V.tok i
  slot : ∀ j o, T.get j = some o → j < X.V.nb + m ∧ s.heap.get? (addr X.V j) = some o
  keep : ∀ b o, X.h₀.get? b = some o → (∀ j < X.V.nb, X.V.base j ≠ b) → s.heap.get? b = some o
  gens : s.gens = #[]
  drawn : s.drawn = X.d
  os : s.os = X.os

noncomputable def Goal (X : Env0) : List KFr → Code → Sem Fin → Pos → Shared → Prop
  | [], c, t, p, s => wp (model X.V.prog X.V.w) (ctx X [] c) t (Sem.finPost (model X.V.prog X.V.w) (ctx X [] c) X.R) (fun e _ s' => X.R (.error e) s') p s
  | g :: κ, c, t, p, s => wp (model X.V.prog X.V.w) (ctx X (g :: κ) c) t (Sem.finPost (model X.V.prog X.V.w) (ctx X (g :: κ) c) (fun r s' => Goal X κ g.c (g.k r) g.p s'))
      (fun e _ s' => Goal X κ g.c (g.k (.error e)) g.p s') p s

noncomputable def back (X : Env0) : List KFr → Result → Shared → Prop
  | [] => X.R
  | g :: κ => fun r s' => Goal X κ g.c (g.k r) g.p s'
theorem goal_eq (X : Env0) (κ : List KFr) (c : Code) (t : Sem Fin) (p : Pos) (s : Shared) :
    Goal X κ c t p s = wp (model X.V.prog X.V.w) (ctx X κ c) t (Sem.finPost (model X.V.prog X.V.w) (ctx X κ c) (back X κ)) (fun e _ s' => back X κ (.error e) s') p s := by
  cases κ <;> rfl

theorem addr_ne {X : Env0} (O : X.OK) {j k : Nat} (h : j ≠ k) : addr X.V j ≠ addr X.V k := by
  unfold addr
  cases qj : Nat.blt j X.V.nb <;> cases qk : Nat.blt k X.V.nb
  · have := PySem.W.X.blt_false qj; have := PySem.W.X.blt_false qk; dsimp only; omega
  · have h1 := PySem.W.X.blt_false qj; have h2 := PySem.W.X.blt_true qk; have := O.lt k h2; dsimp only; omega
  · have h1 := PySem.W.X.blt_true qj; have h2 := PySem.W.X.blt_false qk; have := O.lt j h1; dsimp only; omega
  · exact O.ne j (PySem.W.X.blt_true qj) k (PySem.W.X.blt_true qk) h

section
variable {X : Env0} (O : X.OK) {T : BT} {m i : Nat} {s : Shared}
include O
theorem rep_alloc (D : Rep X T m i s) {x : Obj} (hf : x.isFreed = false) (hg : ((T.ins (X.V.nb + m) x).get (X.V.nb + m)).isSome = true) : Rep X (T.ins (X.V.nb + m) x) (m + 1) i { s with heap := s.heap.push x } := by
  refine ⟨by show (s.heap.push x).objs.size = _; rw [Heap.size_push, D.size, Nat.add_assoc], D.toks, fun j o e => ?_, fun b o e q => Heap.get?_push_of_some _ (D.keep b o e q), D.gens, D.drawn, D.os⟩
  rw [BT.get_ins x T _ hg] at e
  by_cases h : j = X.V.nb + m
  · subst h
    rw [if_pos rfl] at e
    cases e
    refine ⟨by omega, ?_⟩
    have ea : addr X.V (X.V.nb + m) = s.heap.objs.size := by
      unfold addr
      cases q : Nat.blt (X.V.nb + m) X.V.nb with
      | true => have := PySem.W.X.blt_true q; omega
      | false => dsimp only; rw [D.size, Nat.add_sub_cancel_left]
    rw [ea]; exact Heap.get?_push_size _ hf
  · rw [if_neg h] at e
    have z := D.slot j o e
    exact ⟨by omega, Heap.get?_push_of_some _ z.2⟩
theorem rep_update (D : Rep X T m i s) {d : Nat} {f : Obj → Obj} {x : Obj} (e : T.get d = some x) (hf : (f x).isFreed = false) : Rep X (T.set d f) m i { s with heap := s.heap.update (addr X.V d) f } := by
  have z := D.slot d x e
  have hs : Heap.SameBut (addr X.V d) s.heap (s.heap.update (addr X.V d) f) := Heap.SameBut.update ..
  refine ⟨by show (s.heap.update (addr X.V d) f).objs.size = _; rw [hs.1, D.size], D.toks, fun j o e' => ?_, fun b o e' q => ?_, D.gens, D.drawn, D.os⟩
  · rw [BT.get_set] at e'
    by_cases h : j = d
    · subst h
      rw [if_pos rfl, e] at e'
      cases e'
      refine ⟨z.1, ?_⟩
      first | exact Heap.get?_update_self f z.2 hf | exact Heap.get?_update_self _ z.2 hf
    · rw [if_neg h] at e'
      have y := D.slot j o e'
      exact ⟨y.1, (hs.2 _ (addr_ne O h)).trans y.2⟩
  · refine (hs.2 b fun h => ?_).trans (D.keep b o e' q)
    have hb := O.h0 b o e'
    unfold addr at h
    cases qd : Nat.blt d X.V.nb with
    | true => rw [qd] at h; exact q d (PySem.W.X.blt_true qd) h.symm
    | false =>
      rw [qd] at h
      have h' : b = X.V.N + (d - X.V.nb) := h
      rw [h'] at hb
      exact absurd hb (Nat.not_lt.mpr (Nat.le_add_right ..))
theorem rep_fresh (D : Rep X T m i s) (h1 : X.V.inc i = 1) : Rep X T m (i + 1) { s with toks := s.toks + 1 } :=
  ⟨D.size, by show s.toks + 1 = _; rw [D.toks, O.tk, h1], D.slot, D.keep, D.gens, D.drawn, D.os⟩

omit O in
theorem setAll_get : ∀ (up : List (Nat × Obj)) (T : BT) (j : Nat) (o : Obj), (setAll up T).get j = some o → (∃ x ∈ up, x.1 = j ∧ o = x.2 ∧ (T.get j).isSome) ∨ ((∀ x ∈ up, x.1 ≠ j) ∧ T.get j = some o)
  | [], T, j, o, h => .inr ⟨fun _ q => (nomatch q), h⟩
  | x :: up, T, j, o, h => by
    have h' : (setAll up (T.set x.1 fun _ => x.2)).get j = some o := h
    rcases setAll_get up _ j o h' with ⟨y, hy, e1, e2, e3⟩ | ⟨h1, h2⟩
    · refine .inl ⟨y, List.mem_cons_of_mem _ hy, e1, e2, ?_⟩
      rw [BT.get_set] at e3
      split at e3
      · rename_i q; subst q; revert e3; cases T.get x.1 <;> simp
      · exact e3
    · rw [BT.get_set] at h2
      split at h2
      · rename_i q
        subst q
        cases hT : T.get x.1 with
        | none => rw [hT] at h2; cases h2
        | some z =>
          rw [hT] at h2
          cases h2
          exact .inl ⟨x, List.mem_cons_self .., rfl, rfl, by rfl⟩
      · rename_i q
        exact .inr ⟨fun y hy => (List.mem_cons.mp hy).elim (fun e => e ▸ fun q' => q q'.symm) (h1 y), h2⟩
omit O in
theorem insAll_get : ∀ (new : List Obj) (n : Nat) (T : BT) (ob : Ob), (insOK n new T ob).Holds → ob.Holds ∧ ∀ j o, (insAll n new T).get j = some o → (∃ k, j = n + k ∧ new[k]? = some o) ∨ ((∀ k < new.length, j ≠ n + k) ∧ T.get j = some o)
  | [], n, T, ob, h => ⟨h, fun j o q => .inr ⟨fun _ q => absurd q (Nat.not_lt_zero _), q⟩⟩
  | x :: l, n, T, ob, h => by
    unfold insOK at h
    cases hg : (T.ins n x).get n with
    | none => rw [hg] at h; exact h.elim
    | some z =>
      rw [hg] at h
      obtain ⟨hob, hl⟩ := insAll_get l (n + 1) (T.ins n x) ob h
      refine ⟨hob, fun j o q => ?_⟩
      have q' : (insAll (n + 1) l (T.ins n x)).get j = some o := q
      rcases hl j o q' with ⟨k, rfl, hk⟩ | ⟨h1, h2⟩
      · exact .inl ⟨k + 1, by omega, hk⟩
      · rw [BT.get_ins x T _ (by rw [hg]; rfl)] at h2
        by_cases e : j = n
        · subst e
          rw [if_pos rfl] at h2
          cases h2
          exact .inl ⟨0, rfl, rfl⟩
        · rw [if_neg e] at h2
          refine .inr ⟨fun k hk => ?_, h2⟩
          cases k with
          | zero => exact e
          | succ k => have := h1 k (Nat.lt_of_succ_lt_succ hk); omega

theorem rep_went (D : Rep X T m i s) {s' : Shared} {up : List (Nat × Obj)} {new : List Obj} {j : Nat} {ob : Ob} (W : Went X s s' (i + j) up new) (hi : (insOK (X.V.nb + m) new (setAll up T) ob).Holds) :
    ob.Holds ∧ Rep X (insAll (X.V.nb + m) new (setAll up T)) (m + new.length) (i + j) s' := by
  obtain ⟨hob, hI⟩ := insAll_get new _ _ ob hi
  refine ⟨hob, by rw [W.size, D.size, Nat.add_assoc], W.toks, fun k o e => ?_, fun b o e q => ?_, by rw [W.gens, D.gens], by rw [W.drawn, D.drawn], by rw [W.os, D.os]⟩
  · rcases hI k o e with ⟨l, rfl, hl⟩ | ⟨h1, h2⟩
    · have hlt : l < new.length := by rcases List.getElem?_eq_some_iff.mp hl with ⟨h, _⟩; exact h
      refine ⟨by omega, ?_⟩
      have ea : addr X.V (X.V.nb + m + l) = s.heap.objs.size + l := by
        unfold addr
        cases q : Nat.blt (X.V.nb + m + l) X.V.nb with
        | true => have := PySem.W.X.blt_true q; omega
        | false => dsimp only; rw [D.size]; omega
      rw [ea]; exact W.made l o hl
    · rcases setAll_get up T k o h2 with ⟨x, hx, rfl, rfl, h3⟩ | ⟨h3, h4⟩
      · obtain ⟨z, hz⟩ := Option.isSome_iff_exists.mp h3
        exact ⟨by have := (D.slot _ z hz).1; omega, W.upd x hx⟩
      · have z := D.slot k o h4
        exact ⟨by omega, W.kept _ _ (fun x hx => addr_ne O (h3 x hx)) z.2⟩
  · refine W.kept b o (fun x hx h => ?_) (D.keep b o e q)
    have hb := O.h0 b o e
    unfold addr at h
    cases qd : Nat.blt x.1 X.V.nb with
    | true => rw [qd] at h; exact q x.1 (PySem.W.X.blt_true qd) h
    | false =>
      rw [qd] at h
      have h' : X.V.N + (x.1 - X.V.nb) = b := h
      rw [← h'] at hb
      exact absurd hb (Nat.not_lt.mpr (Nat.le_add_right ..))
theorem rep_look (D : Rep X T m i s) {a d : Nat} {ob : Ob} {x : Obj} (e : look X.V T a d = some x) (h : (owe X.V a d ob).Holds) : ob.Holds ∧ s.heap.get? a = some x := by
  cases d with
  | zero => cases e
  | succ d => cases d with
    | zero =>
      have z := O.kt a x e
      exact ⟨h, D.keep a x z.1 z.2⟩
    | succ d =>
      have h' : a = addr X.V d ∧ ob.Holds := h
      exact ⟨h'.2, h'.1 ▸ (D.slot d x e).2⟩
end
end Mine
end
section
set_option maxRecDepth 100000
set_option linter.unusedSectionVars false
open PySem PySem.W PySem.Calls PyProof.Rows
open PySem.Sem (wp)
namespace Mine

theorem keyIs_eq (s : Str) (v : Value) : keyIs s v = v.isStr s := by
  cases v with
  | str y t =>
    show Fast.sEq y s = (y == s)
    rw [Bool.eq_iff_iff, Fast.sEq_iff, beq_iff_eq]
  | _ => rfl
theorem idIs_eq {n : Nat} {x : String} (h : PySem.code x = n) {id : String} (e : idIs n id = true) : id = x := by
  unfold idIs at e
  have := Nat.eq_of_beq_eq_true e
  exact PySem.code_inj _ _ ((S.code_S id).trans (this.trans h.symm))

theorem didx_eq (s : Str) : ∀ l : List DictEntry, l.findIdx? (fun e => e.key.isStr s) = didx s l
  | [] => rfl
  | e :: l => by
    rw [List.findIdx?_cons, didx_eq s l]
    have q : didx s (e :: l) = match e.key.isStr s with | true => some 0 | false => match didx s l with | some i => some (i + 1) | none => none := by
      rw [← keyIs_eq]; rfl
    rw [q]
    cases h : e.key.isStr s with
    | true => simp
    | false =>
      simp only [Bool.false_eq_true, if_false]
      cases didx s l <;> rfl
theorem dval_eq : ∀ (l : List DictEntry) (i : Nat), (l[i]?).map (·.val) = dval l i
  | [], _ => rfl
  | e :: l, 0 => rfl
  | e :: l, i + 1 => by
    rw [List.getElem?_cons_succ, dval_eq l i]; rfl
theorem allStr_eq : ∀ l : List DictEntry, allStr l = true → ∀ e ∈ l, isExactStrKey e.key = true
  | [], _, e, h => nomatch h
  | e :: l, h, x, hx => by
    unfold allStr at h
    split at h
    · rename_i q
      rcases List.mem_cons.mp hx with rfl | hx
      · rw [q]; rfl
      · exact allStr_eq l h x hx
    · cases h
theorem nDict_eq : PySem.code "dict" = nDict := by rw [S.code_S]; kernel_rfl
theorem entries_of {x : Obj} {es : List DictEntry} (h : entriesOf x = some es) : ∃ ep, x = ⟨.type "dict", none, .dict ⟨es⟩ ep, #[]⟩ ∧ ∀ e ∈ es, isExactStrKey e.key = true := by
  obtain ⟨c, d, dt, sl⟩ := x
  unfold entriesOf at h
  dsimp only at h
  split at h
  · split at h
    · rename_i n q
      split at h
      · split at h
        · rename_i es' ep
          split at h
          · rename_i qs
            split at h
            · rename_i qa
              cases h
              have hn := idIs_eq nDict_eq q
              subst hn
              have : sl = #[] := Array.ext' qs
              subst this
              exact ⟨ep, by simp, allStr_eq _ qa⟩
            · cases h
          · cases h
        · cases h
      · cases h
    · cases h
  · cases h

section
variable {prog : Program} {w : World} {A : Around} {E : Value → Shared → Prop} {s : Shared}

theorem dictFind_s {d : Addr} {es : List DictEntry} {ep : Nat} {x : Str} {t : Tok} {hsh : Int} {Q : Option Nat → Shared → Prop}
    (ho : s.heap.get? d = some ⟨.type "dict", none, .dict ⟨es⟩ ep, #[]⟩) (ha : ∀ e ∈ es, isExactStrKey e.key = true) (h : Q (didx x es) s) :
    wpAny (model prog w) A (dictFind d (.str x t) hsh) Q E s := by
  have hall : ((⟨es⟩ : Array DictEntry).all fun e => isExactStrKey e.key) = true := by
    rw [← Array.all_toList]; exact List.all_eq_true.mpr ha
  have hf : (⟨es⟩ : Array DictEntry).findIdx? (fun e => e.key.isStr x) = didx x es := by
    rw [← didx_eq]; exact List.findIdx?_toArray ..
  unfold dictFind
  try with_reducible refine wpAny_holding ?_
  refine wpAny_bind (wpAny_dictEntries ho rfl ?_)
  dsimp only
  rw [if_pos hall]
  unfold foundByValue
  rw [hf]
  cases hd : didx x es with
  | none => rw [hd] at h; exact wpAny_pure h
  | some i =>
    rw [hd] at h hf
    obtain ⟨hlt, hi, _⟩ := Array.findIdx?_eq_some_iff_getElem.mp hf
    have hk : ∃ t', (⟨es⟩ : Array DictEntry)[i].key = .str x t' := by
      revert hi
      cases (⟨es⟩ : Array DictEntry)[i].key with
      | str y t' => intro hi; exact ⟨t', by rw [show y = x from by simpa [Value.isStr] using hi]⟩
      | _ => intro hi; simp [Value.isStr] at hi
    obtain ⟨t', hk⟩ := hk
    simp only [Array.getElem?_eq_getElem hlt]
    rw [hk]
    refine wpAny_bind (wpAny_dictEpoch ho rfl (wpAny_bind (wpAny_eqBool_str (wpAny_bind (wpAny_dictEpoch ho rfl ?_)))))
    show wpAny _ _ (if (ep != ep) = true then _ else _) _ E _
    rw [if_neg (by simp), decide_eq_true rfl]
    exact wpAny_bind (wpAny_rule (wpAny_pure h))

theorem dictGet_s {d : Addr} {es : List DictEntry} {ep : Nat} {x : Str} {t : Tok} {Q : Option Value → Shared → Prop}
    (ho : s.heap.get? d = some ⟨.type "dict", none, .dict ⟨es⟩ ep, #[]⟩) (ha : ∀ e ∈ es, isExactStrKey e.key = true) (h : Q (dfind x es) { s with toks := s.toks + 1 }) :
    wpAny (model prog w) A (dictGet d (.str x t)) Q E s := by
  unfold dictGet
  try with_reducible refine wpAny_holding ?_
  refine wpAny_bind (wpAny_pyHash_str (wpAny_bind (dictFind_s (s := { s with toks := s.toks + 1 }) ho ha ?_)))
  unfold dfind at h
  cases hd : didx x es with
  | none => rw [hd] at h; exact wpAny_pure h
  | some i =>
    rw [hd] at h
    refine wpAny_bind (wpAny_dictEntries (s := { s with toks := s.toks + 1 }) ho rfl (wpAny_pure ?_))
    have : ((⟨es⟩ : Array DictEntry)[i]?).map (·.val) = dval es i := by rw [← dval_eq]; simp
    rw [this]; exact h

theorem dictSet_s {d : Addr} {es : List DictEntry} {ep i : Nat} {x : Str} {t : Tok} {v : Value} {Q : Unit → Shared → Prop}
    (ho : s.heap.get? d = some ⟨.type "dict", none, .dict ⟨es⟩ ep, #[]⟩) (ha : ∀ e ∈ es, isExactStrKey e.key = true) (hi : didx x es = some i)
    (h : Q () { s with heap := s.heap.update d (Obj.mapDict fun es => es.modify i fun e => { e with val := v }), toks := s.toks + 1 }) :
    wpAny (model prog w) A (dictSet d (.str x t) v) Q E s := by
  unfold dictSet
  try with_reducible refine wpAny_holding ?_
  refine wpAny_bind (wpAny_pyHash_str ?_)
  unfold dictSetHashed
  try with_reducible refine wpAny_holding ?_
  refine wpAny_bind (dictFind_s (s := { s with toks := s.toks + 1 }) ho ha ?_)
  rw [hi]
  exact wpAny_bind (wpAny_rule (wpAny_bind (wpAny_updateDict (s := { s with toks := s.toks + 1 }) ho rfl (wpAny_point h))))

variable {R : Result → Shared → Prop} {a : Addr} {x : Obj} {es : List DictEntry} {k : Str} {t : Tok}
theorem code_getitem {v : Value} (ho : s.heap.get? a = some x) (he : entriesOf x = some es) (hv : dfind k es = some v) (h : R (.ok (.ret v)) { s with toks := s.toks + 1 }) :
    codeAny (model prog w) A (.call (.builtin "dict.__getitem__") ⟨[.ref a, .str k t], []⟩) R s := by
  obtain ⟨ep, rfl, ha⟩ := entries_of he
  refine codeAny_call_builtin F.slot_dict_getitem.plain F.entry_dict_getitem (F.slot_dict_getitem.check _ _ _ _ _ _ _ _ ⟨_, ho, rfl⟩ (F.args_dict_getitem_2 _ _) ?_)
  show wpAny _ _ (dictGet a (.str k t) >>= _) _ _ s
  refine wpAny_bind (dictGet_s ho ha ?_)
  rw [hv]
  exact wpAny_pure h
theorem code_get (hs : (a == sysModules) = false) (ho : s.heap.get? a = some x) (he : entriesOf x = some es) (h : R (.ok (.ret ((dfind k es).getD .none))) { s with toks := s.toks + 1 }) :
    codeAny (model prog w) A (.call (.builtin "dict.get") ⟨[.ref a, .str k t], []⟩) R s := by
  obtain ⟨ep, rfl, ha⟩ := entries_of he
  refine codeAny_call_builtin F.slot_dict_get.plain F.entry_dict_get (F.slot_dict_get.check _ _ _ _ _ _ _ _ ⟨_, ho, rfl⟩ (F.args_dict_get_2 _ _) ?_)
  show wpAny _ _ (dictGet a (.str k t) >>= _) _ _ s
  refine wpAny_bind (dictGet_s ho ha ?_)
  cases hf : dfind k es with
  | some v => rw [hf] at h; exact wpAny_pure h
  | none =>
    rw [hf] at h
    show wpAny _ _ (Builtin.Dict.missed a (.str k t) >>= _) _ _ _
    exact wpAny_bind (wpAny_missed_other hs (wpAny_pure h))
theorem code_in (hs : (a == sysModules) = false) (ho : s.heap.get? a = some x) (he : entriesOf x = some es) (h : R (.ok (.ret (.bool (dfind k es).isSome))) { s with toks := s.toks + 1 }) :
    codeAny (model prog w) A (.call (.builtin "dict.__contains__") ⟨[.ref a, .str k t], []⟩) R s := by
  obtain ⟨ep, rfl, ha⟩ := entries_of he
  refine codeAny_call_builtin F.slot_dict_contains.plain F.entry_dict_contains (F.slot_dict_contains.check _ _ _ _ _ _ _ _ ⟨_, ho, rfl⟩ (F.args_dict_contains_2 _ _) ?_)
  show wpAny _ _ (dictGet a (.str k t) >>= _) _ _ s
  refine wpAny_bind (dictGet_s ho ha ?_)
  cases hf : dfind k es with
  | some v => rw [hf] at h; exact wpAny_pure h
  | none =>
    rw [hf] at h
    show wpAny _ _ (Builtin.Dict.pendingKey? a (.str k t) >>= _) _ _ _
    exact wpAny_bind (wpAny_pendingKey_other hs (wpAny_pure h))
theorem code_set {i : Nat} {v : Value} (ho : s.heap.get? a = some x) (he : entriesOf x = some es) (hi : didx k es = some i)
    (h : R (.ok (.ret .none)) { s with heap := s.heap.update a (Obj.mapDict fun es => es.modify i fun e => { e with val := v }), toks := s.toks + 1 }) :
    codeAny (model prog w) A (.call (.builtin "dict.__setitem__") ⟨[.ref a, .str k t, v], []⟩) R s := by
  obtain ⟨ep, rfl, ha⟩ := entries_of he
  refine codeAny_call_builtin F.slot_dict_setitem.plain F.entry_dict_setitem (F.slot_dict_setitem.check _ _ _ _ _ _ _ _ ⟨_, ho, rfl⟩ (F.args_dict_setitem_3 _ _ _) ?_)
  show wpAny _ _ (Builtin.Dict.notOrdered "__setitem__" ⟨[.ref a, .str k t, v], []⟩ >>= _) _ _ s
  refine wpAny_bind (wpAny_notOrdered_dict ⟨_, ho, rfl⟩ ?_)
  show wpAny _ _ (dictSet a (.str k t) v >>= _) _ _ s
  exact wpAny_bind (dictSet_s ho ha hi (wpAny_pure h))
end

theorem here {X : Env0} {κ : List KFr} {c c' : Code} {p p' : Pos} {R : Result → Shared → Prop} {s : Shared}
    (h : ∀ A, codeAny (model X.V.prog X.V.w) A c' R s) : wpCode (model X.V.prog X.V.w) ((ctx X κ c).enter c' none p) R p' s := by
  refine h { handled := none, depth := frameCount ((ctx X κ c).enter c' none p).below, frames := none, guards := none, units := unitsOf ((ctx X κ c).enter c' none p).below } _ _ rfl ⟨rfl, Nat.le_refl _, fun _ q => (nomatch q), fun _ q => (nomatch q), Nat.le_refl _⟩
end Mine
end
section
set_option maxRecDepth 100000
set_option linter.unusedSectionVars false
open PySem PySem.W PySem.Calls PyProof.Rows
open PySem.Sem (wp)
open PySem.SeqAt
namespace Mine

theorem nList_eq : PySem.code "list" = nList := by rw [S.code_S]; kernel_rfl
theorem nTuple_eq : PySem.code "tuple" = nTuple := by rw [S.code_S]; kernel_rfl
theorem nListIn_eq : PySem.code "list.__contains__" = nListIn := by rw [S.code_S]; kernel_rfl
theorem nListNe_eq : PySem.code "list.__ne__" = nListNe := by rw [S.code_S]; kernel_rfl
theorem nTupleNe_eq : PySem.code "tuple.__ne__" = nTupleNe := by rw [S.code_S]; kernel_rfl

theorem frames_le (c : Code) : c.frames ≤ 3 := by
  unfold Code.frames
  split <;> first | decide | (split <;> decide)
theorem cUnits_le (c : Code) : c.cUnits ≤ 10 := by
  have := frames_le c
  unfold Code.cUnits
  split <;> omega
theorem units_le (l : List (Code × Pos)) : unitsOf l ≤ 10 * l.length := by
  induction l with
  | nil => exact Nat.le_refl _
  | cons x l ih => obtain ⟨c, p⟩ := x; rw [unitsOf_cons, List.length_cons]; have := cUnits_le c; omega

theorem here' {X : Env0} {κ : List KFr} {c c' : Code} {p p' : Pos} {R : Result → Shared → Prop} {s : Shared}
    (h : ∀ A : Around, A.units ≤ 10 * (κ.length + X.V.bel.length + 1) → codeAny (model X.V.prog X.V.w) A c' R s) : wpCode (model X.V.prog X.V.w) ((ctx X κ c).enter c' none p) R p' s := by
  refine h { handled := none, depth := frameCount ((ctx X κ c).enter c' none p).below, frames := none, guards := none, units := unitsOf ((ctx X κ c).enter c' none p).below } ?_ _ _ rfl ⟨rfl, Nat.le_refl _, fun _ q => (nomatch q), fun _ q => (nomatch q), Nat.le_refl _⟩
  refine Nat.le_trans (units_le _) (Nat.mul_le_mul_left _ ?_)
  show ((c, p) :: ((κ.map fun f => (f.c, f.p)) ++ X.V.bel)).length ≤ _
  rw [List.length_cons, List.length_append, List.length_map]
  omega

theorem seqOf_of {n : Nat} {name : String} (hn : PySem.code name = n) {x : Obj} {vs : List Value} (h : seqOf n x = some vs) : ∃ k, x = ⟨.type name, none, .seq ⟨vs⟩ k, #[]⟩ := by
  obtain ⟨c, d, dt, sl⟩ := x
  unfold seqOf at h
  dsimp only at h
  split at h
  · split at h
    · rename_i ty q
      split at h
      · split at h
        · split at h
          · rename_i qs
            cases h
            have e := idIs_eq hn q
            subst e
            have : sl = #[] := Array.ext' qs
            subst this
            exact ⟨_, rfl⟩
          · cases h
        · cases h
      · cases h
    · cases h
  · cases h

section
variable {A : Around} {s : Shared}
theorem veq_at {x y : Value} {b : Bool} (h : veq x y = some b) : EqAt A s x y b := by
  intro prog w E Q hq
  cases x with
  | str a t => cases y with
    | str c u =>
      cases h
      refine wpAny_eqBool_str ?_
      have : decide (a = c) = Fast.sEq a c := by rw [Bool.eq_iff_iff, Fast.sEq_iff, decide_eq_true_iff]
      rw [this]; exact hq
    | _ => cases h
  | int a t => cases y with
    | int c u =>
      cases h
      refine wpAny_eqBool_int ?_
      have : (a == c) = decide (a = c) := by rw [Bool.eq_iff_iff]; simp
      rw [this]; exact hq
    | _ => cases h
  | bytes a t => cases y with
    | bytes c u =>
      cases h
      refine eqBool_bytes ?_
      have : decide (a.toList = c.toList) = (Nat.beq a.size c.size && a.toList.beq c.toList) := by
        rw [Bool.eq_iff_iff, Bool.and_eq_true, decide_eq_true_iff, show a.toList.beq c.toList = (a.toList == c.toList) from rfl, beq_iff_eq]
        constructor
        · intro e
          refine ⟨?_, e⟩
          have : a.size = c.size := by rw [← Array.length_toList, e, Array.length_toList]
          rw [this]; exact Nat.beq_refl _
        · exact fun e => e.2
      rw [this]; exact hq
    | _ => cases h
  | _ => cases h

theorem all_succ (n : Nat) (e : Nat → Bool) (b : Bool) : (List.range (n + 1)).all (fun j => match j with | 0 => b | j + 1 => e j) = (b && (List.range n).all e) := by
  rw [List.range_succ_eq_map, List.all_cons, List.all_map]; rfl

theorem veqs_at : ∀ (xs ys : List Value) (b : Bool), veqs xs ys = some b → xs.length = ys.length ∧
    ∃ e : Nat → Bool, (∀ j (h1 : j < xs.length) (h2 : j < ys.length), EqAt A s xs[j] ys[j] (e j)) ∧ (List.range xs.length).all e = b
  | [], [], b, h => by
    cases h
    exact ⟨rfl, fun _ => true, fun j h => absurd h (Nat.not_lt_zero _), rfl⟩
  | [], _ :: _, b, h => nomatch h
  | _ :: _, [], b, h => nomatch h
  | x :: l, y :: r, b, h => by
    unfold veqs at h
    split at h
    · rename_i b₁ h₁
      split at h
      · rename_i b₂ h₂
        cases h
        obtain ⟨hl, e, he, hb⟩ := veqs_at l r b₂ h₂
        refine ⟨by rw [List.length_cons, List.length_cons, hl], fun j => match j with | 0 => b₁ | j + 1 => e j, fun j h1 h2 => ?_, ?_⟩
        · cases j with
          | zero => exact veq_at h₁
          | succ j => exact he j (Nat.lt_of_succ_lt_succ h1) (Nat.lt_of_succ_lt_succ h2)
        · rw [List.length_cons, all_succ, hb]
      · cases h
    · cases h

theorem neL_at : ∀ (xs ys : List Value) (ob ob' : Ob) (q : Bool), neL xs ys ob = some (q, ob') → ob'.Holds → ob.Holds ∧ xs.length = ys.length ∧
    ∃ e : Nat → Bool, (∀ j (h1 : j < xs.length) (h2 : j < ys.length), EqAt A s xs[j] ys[j] (e j)) ∧ (!(List.range xs.length).all e) = q
  | [], [], ob, ob', q, h, ho => by
    cases h
    exact ⟨ho, rfl, fun _ => true, fun j h => absurd h (Nat.not_lt_zero _), rfl⟩
  | [], _ :: _, _, _, _, h, _ => nomatch h
  | x :: l, [], _, _, _, h, _ => by unfold neL at h; cases h
  | x :: l, y :: r, ob, ob', q, h, ho => by
    unfold neL at h
    split at h
    · split at h
      · rename_i a _ b
        obtain ⟨hob, hl, e, he, hb⟩ := neL_at l r _ ob' q h ho
        obtain ⟨rfl, hob⟩ := hob
        refine ⟨hob, by rw [List.length_cons, List.length_cons, hl], fun j => match j with | 0 => true | j + 1 => e j, fun j h1 h2 => ?_, ?_⟩
        · cases j with
          | zero => exact EqAt.same _
          | succ j => exact he j (Nat.lt_of_succ_lt_succ h1) (Nat.lt_of_succ_lt_succ h2)
        · rw [List.length_cons, all_succ, Bool.true_and, hb]
      · cases h
    · split at h
      · rename_i b₁ h₁
        split at h
        · rename_i n ob₂ h₂
          cases h
          obtain ⟨hob, hl, e, he, hb⟩ := neL_at l r _ _ _ h₂ ho
          refine ⟨hob, by rw [List.length_cons, List.length_cons, hl], fun j => match j with | 0 => b₁ | j + 1 => e j, fun j h1 h2 => ?_, ?_⟩
          · cases j with
            | zero => exact veq_at h₁
            | succ j => exact he j (Nat.lt_of_succ_lt_succ h1) (Nat.lt_of_succ_lt_succ h2)
          · rw [List.length_cons, all_succ, Bool.not_and, hb]
        · cases h
      · cases h
end
noncomputable def eFn (h : Heap) (ys : List Value) (v : Value) : Bool := match v with
  | .ref z => match h.get? z with
    | some o => match seqOf nTuple o with
      | some zs => (veqs zs ys).getD false
      | none => false
    | none => false
  | _ => false

theorem inT_at {X : Env0} (O : X.OK) {A : Around} (hA : A.units < cLine) {T : BT} {m i : Nat} {s : Shared} (D : Rep X T m i s) {e : Nat} {ys : List Value} (hy : s.heap.IsTuple (addr X.V e) ⟨ys⟩) :
    ∀ (l : List Value) (fs : List Nat) (ob ob' : Ob) (q : Bool), inT X.V T e ys l fs ob = some (q, ob') → ob'.Holds →
      ob.Holds ∧ (∀ v ∈ l, EqAt A s v (.ref (addr X.V e)) (eFn s.heap ys v)) ∧ l.any (eFn s.heap ys) = q
  | [], _, ob, ob', q, h, ho => by
    cases h
    exact ⟨ho, fun _ h => (nomatch h), rfl⟩
  | v :: l, fs, ob, ob', q, h, ho => by
    cases fs with
    | nil => cases h
    | cons f fs => cases v with
      | ref z => cases f with
        | zero => cases h
        | succ f => cases f with
          | zero => cases h
          | succ f =>
            unfold inT at h
            dsimp only at h
            cases hfe : Nat.beq f e with
            | true => rw [hfe] at h; cases h
            | false =>
              rw [hfe] at h
              dsimp only at h
              cases hT : T.get f with
              | none => rw [hT] at h; cases h
              | some o =>
                rw [hT] at h
                dsimp only at h
                cases hz : seqOf nTuple o with
                | none => rw [hz] at h; cases h
                | some zs =>
                  rw [hz] at h
                  dsimp only at h
                  cases hb : veqs zs ys with
                  | none => rw [hb] at h; cases h
                  | some b =>
                    rw [hb] at h
                    dsimp only at h
                    split at h
                    · rename_i b' ob₂ h₂
                      cases h
                      obtain ⟨hob, hl, ha⟩ := inT_at O hA D hy l _ _ _ _ h₂ ho
                      obtain ⟨rfl, hob⟩ := hob
                      have hs := (D.slot _ _ hT).2
                      have hv : eFn s.heap ys (.ref (addr X.V f)) = b := by
                        unfold eFn
                        simp only [hs, hz, hb]; rfl
                      refine ⟨hob, fun v hv' => ?_, by rw [List.any_cons, hv, ha]⟩
                      rcases List.mem_cons.mp hv' with rfl | hv'
                      · rw [hv]
                        obtain ⟨k, rfl⟩ := seqOf_of nTuple_eq hz
                        have hne : f ≠ e := fun q => by subst q; rw [Nat.beq_refl] at hfe; cases hfe
                        obtain ⟨hlen, en, hen, hall⟩ := veqs_at (A := A.in1) (s := s) zs ys b hb
                        have := RcAt.tuples (A := A) (e := en) (items := ⟨zs⟩) (items2 := ⟨ys⟩) ⟨_, hs, rfl, k, rfl⟩ hy hA (fun j h1 h2 => hen j h1 h2)
                        refine EqAt.of_refs (addr_ne O hne) ?_
                        have hsz : ((List.range (min (⟨zs⟩ : Array Value).size (⟨ys⟩ : Array Value).size)).all en && (⟨zs⟩ : Array Value).size == (⟨ys⟩ : Array Value).size) = b := by
                          show ((List.range (min zs.length ys.length)).all en && zs.length == ys.length) = b
                          rw [← hlen, Nat.min_self, hall]; simp
                        rw [hsz] at this
                        exact this
                      · exact hl v hv'
                    · cases h
      | _ => cases h

theorem owe_holds {V : SV} {a d : Nat} {ob : Ob} (h : (owe V a d ob).Holds) : ob.Holds := by
  revert h
  unfold owe
  split
  · exact id
  · split
    · exact id
    · exact fun q => q.2

theorem look_of {X : Env0} (O : X.OK) {T : BT} {m i : Nat} {s : Shared} (D : Rep X T m i s) {a d : Nat} {ob : Ob} {x : Obj} (e : look X.V T a d = some x) (h : (owe X.V a d ob).Holds) : s.heap.get? a = some x :=
  (rep_look O D e h).2

theorem code_listIn {prog : Program} {w : World} {A : Around} {s : Shared} {R : Result → Shared → Prop} {l b k : Nat} {xs : List Value} {e : Value → Bool}
    (hl : s.heap.get? l = some ⟨.type "list", none, .seq ⟨xs⟩ k, #[]⟩) (he : ∀ v ∈ xs, EqAt A.in1 s v (.ref b) (e v)) (h : R (.ok (.ret (.bool (xs.any e)))) s) :
    codeAny (model prog w) A (.call (.builtin "list.__contains__") ⟨[.ref l, .ref b], []⟩) R s := by
  refine codeAny_call_builtin F.slot_list_contains.plain F.entry_list_contains (F.slot_list_contains.check _ _ _ _ _ _ _ _ ⟨_, hl, rfl⟩ (F.args_list_contains_2 _ _) ?_)
  exact list_containsAt l ⟨xs⟩ k none #[] (.ref b) e prog w A R s ⟨hl, fun v hv => he v (by simpa using hv), by simpa using h⟩
theorem code_listNe {prog : Program} {w : World} {A : Around} {s : Shared} {R : Result → Shared → Prop} {l b k k' : Nat} {xs ys : List Value} {e : Nat → Bool}
    (hl : s.heap.get? l = some ⟨.type "list", none, .seq ⟨xs⟩ k, #[]⟩) (hb : s.heap.get? b = some ⟨.type "list", none, .seq ⟨ys⟩ k', #[]⟩) (hsz : xs.length = ys.length)
    (he : ∀ j (h1 : j < xs.length) (h2 : j < ys.length), EqAt A.in1 s xs[j] ys[j] (e j)) (h : R (.ok (.ret (.bool (!(List.range xs.length).all e)))) s) :
    codeAny (model prog w) A (.call (.builtin "list.__ne__") ⟨[.ref l, .ref b], []⟩) R s := by
  refine codeAny_call_builtin F.slot_list_ne.plain F.entry_list_ne (F.slot_list_ne.check _ _ _ _ _ _ _ _ ⟨_, hl, rfl⟩ (F.args_list_ne_2 _ _) ?_)
  exact list_neAt l b ⟨xs⟩ ⟨ys⟩ k k' none none #[] #[] hsz e prog w A R s ⟨hl, hb, fun j h1 h2 => he j h1 h2, h⟩
theorem code_listNe' {prog : Program} {w : World} {A : Around} {s : Shared} {R : Result → Shared → Prop} {l b k k' : Nat} {xs ys : List Value}
    (hl : s.heap.get? l = some ⟨.type "list", none, .seq ⟨xs⟩ k, #[]⟩) (hb : s.heap.get? b = some ⟨.type "list", none, .seq ⟨ys⟩ k', #[]⟩) (hsz : xs.length ≠ ys.length)
    (h : R (.ok (.ret (.bool true))) s) :
    codeAny (model prog w) A (.call (.builtin "list.__ne__") ⟨[.ref l, .ref b], []⟩) R s := by
  refine codeAny_call_builtin F.slot_list_ne.plain F.entry_list_ne (F.slot_list_ne.check _ _ _ _ _ _ _ _ ⟨_, hl, rfl⟩ (F.args_list_ne_2 _ _) ?_)
  exact list_ne_lengthsAt l b ⟨xs⟩ ⟨ys⟩ k k' none none #[] #[] (by show (xs.length != ys.length) = true; simpa using hsz) prog w A R s ⟨hl, hb, h⟩
theorem code_tupleNe {prog : Program} {w : World} {A : Around} {s : Shared} {R : Result → Shared → Prop} {l b k k' : Nat} {xs ys : List Value} {e : Nat → Bool}
    (hl : s.heap.get? l = some ⟨.type "tuple", none, .seq ⟨xs⟩ k, #[]⟩) (hb : s.heap.get? b = some ⟨.type "tuple", none, .seq ⟨ys⟩ k', #[]⟩) (hsz : xs.length = ys.length)
    (he : ∀ j (h1 : j < xs.length) (h2 : j < ys.length), EqAt A.in1 s xs[j] ys[j] (e j)) (h : R (.ok (.ret (.bool (!(List.range xs.length).all e)))) s) :
    codeAny (model prog w) A (.call (.builtin "tuple.__ne__") ⟨[.ref l, .ref b], []⟩) R s := by
  refine codeAny_call_builtin F.slot_tuple_ne.plain F.entry_tuple_ne (F.slot_tuple_ne.check _ _ _ _ _ _ _ _ ⟨_, hl, rfl⟩ (F.args_tuple_ne_2 _ _) ?_)
  refine tuple_neAt l b ⟨xs⟩ ⟨ys⟩ k k' none none #[] #[] e prog w A R s ⟨hl, hb, fun j h1 h2 => he j h1 h2, ?_⟩
  have : (!((List.range (min (⟨xs⟩ : Array Value).size (⟨ys⟩ : Array Value).size)).all e && (⟨xs⟩ : Array Value).size == (⟨ys⟩ : Array Value).size)) = (!(List.range xs.length).all e) := by
    show (!((List.range (min xs.length ys.length)).all e && xs.length == ys.length)) = _
    rw [← hsz, Nat.min_self]; simp
  rw [this]; exact h

noncomputable def Comes (X : Env0) (c : Code) (p : Pos) (κ : List KFr) (T : BT) (m i : Nat) (c' : Code) (q : Bool) : Prop :=
  ∀ s, Rep X T m i s → ∀ R : Result → Shared → Prop, R (.ok (.ret (.bool q))) s → wpCode (model X.V.prog X.V.w) ((ctx X κ c).enter c' none p) R p s

theorem ansE_5 {X : Env0} (O : X.OK) {κ : List KFr} {c : Code} {p : Pos} {T : BT} {m i : Nat} {d e f g n a b : Nat} {ob ob' : Ob} {q : Bool} {xs ys : List Value} {x y : Obj}
    (hn : n = κ.length + X.V.bel.length) (hb : Nat.blt n 900 = true) (hx : look X.V T a d = some x) (hy : T.get e = some y) (hxs : seqOf nList x = some xs) (hys : seqOf nTuple y = some ys)
    (ha : inT X.V T e ys xs [f, g] (owe X.V a d (.eq b (addr X.V e) ob)) = some (q, ob')) (ho : ob'.Holds) :
    ob.Holds ∧ Comes X c p κ T m i (.call (.builtin "list.__contains__") ⟨[.ref a, .ref b], []⟩) q := by
  have hn' := PySem.W.X.blt_true hb
  obtain ⟨k, rfl⟩ := seqOf_of nList_eq hxs
  obtain ⟨k', rfl⟩ := seqOf_of nTuple_eq hys
  have key : ∀ (A : Around) (s : Shared), A.units < cLine → Rep X T m i s → ob.Holds ∧ s.heap.get? a = some ⟨.type "list", none, .seq ⟨xs⟩ k, #[]⟩ ∧ b = addr X.V e ∧
      (∀ v ∈ xs, EqAt A s v (.ref (addr X.V e)) (eFn s.heap ys v)) ∧ xs.any (eFn s.heap ys) = q := fun A s hA D => by
    have hyt : s.heap.IsTuple (addr X.V e) ⟨ys⟩ := ⟨_, (D.slot _ _ hy).2, rfl, _, rfl⟩
    obtain ⟨h1, h2, h3⟩ := inT_at O hA D hyt xs _ _ _ _ ha ho
    obtain ⟨⟨h4, h5⟩, h6⟩ := rep_look O D hx h1
    exact ⟨h5, h6, h4, h2, h3⟩
  constructor
  · have : ∀ (l : List Value) (fs : List Nat) (ob ob' : Ob) (q : Bool), inT X.V T e ys l fs ob = some (q, ob') → ob'.Holds → ob.Holds := by
      intro l
      induction l with
      | nil => intro fs ob ob' q h ho; cases h; exact ho
      | cons v l ih =>
        intro fs ob ob' q h ho
        cases fs with
        | nil => cases h
        | cons f fs => cases v with
          | ref z => cases f with
            | zero => cases h
            | succ f => cases f with
              | zero => cases h
              | succ f =>
                unfold inT at h
                dsimp only at h
                split at h
                · cases h
                · split at h
                  · split at h
                    · split at h
                      · split at h
                        · rename_i h₂
                          cases h
                          exact (ih _ _ _ _ h₂ ho).2
                        · cases h
                      · cases h
                    · cases h
                  · cases h
          | _ => cases h
    exact (owe_holds (this _ _ _ _ _ ha ho)).2
  · intro s D R hR
    refine here' fun A hA => ?_
    obtain ⟨_, h6, rfl, h2, h3⟩ := key A.in1 s (by
      show A.units + (1 : Nat) < cLine
      unfold cLine
      rw [← hn] at hA
      omega) D
    exact code_listIn h6 h2 (h3 ▸ hR)
theorem ansE_6 {X : Env0} (O : X.OK) {κ : List KFr} {c : Code} {p : Pos} {T : BT} {m i : Nat} {d e a b : Nat} {ob ob' : Ob} {q : Bool} {xs ys : List Value} {x y : Obj}
    (hx : look X.V T a d = some x) (hy : look X.V T b e = some y) (hxs : seqOf nList x = some xs) (hys : seqOf nList y = some ys)
    (ha : neL xs ys (owe X.V a d (owe X.V b e ob)) = some (q, ob')) (ho : ob'.Holds) :
    ob.Holds ∧ Comes X c p κ T m i (.call (.builtin "list.__ne__") ⟨[.ref a, .ref b], []⟩) q := by
  obtain ⟨k, rfl⟩ := seqOf_of nList_eq hxs
  obtain ⟨k', rfl⟩ := seqOf_of nList_eq hys
  refine ⟨owe_holds (owe_holds (neL_at (A := {}) (s := { heap := {}, gens := #[], drawn := X.d, toks := 0, os := X.os }) xs ys _ _ _ ha ho).1), fun s D R hR => here' fun A hA => ?_⟩
  obtain ⟨h1, h2, en, he, hq⟩ := neL_at (A := A.in1) (s := s) xs ys _ _ _ ha ho
  exact code_listNe (rep_look O D hx h1).2 (rep_look O D hy (owe_holds h1)).2 h2 he (hq ▸ hR)
theorem ansE_6' {X : Env0} (O : X.OK) {κ : List KFr} {c : Code} {p : Pos} {T : BT} {m i : Nat} {d e a b : Nat} {ob : Ob} {xs ys : List Value} {x y : Obj}
    (hx : look X.V T a d = some x) (hy : look X.V T b e = some y) (hxs : seqOf nList x = some xs) (hys : seqOf nList y = some ys)
    (hne : xs.length ≠ ys.length) (ho : (owe X.V a d (owe X.V b e ob)).Holds) :
    ob.Holds ∧ Comes X c p κ T m i (.call (.builtin "list.__ne__") ⟨[.ref a, .ref b], []⟩) true := by
  obtain ⟨k, rfl⟩ := seqOf_of nList_eq hxs
  obtain ⟨k', rfl⟩ := seqOf_of nList_eq hys
  refine ⟨owe_holds (owe_holds ho), fun s D R hR => here' fun A hA => ?_⟩
  exact code_listNe' (rep_look O D hx ho).2 (rep_look O D hy (owe_holds ho)).2 hne hR
theorem ansE_7 {X : Env0} (O : X.OK) {κ : List KFr} {c : Code} {p : Pos} {T : BT} {m i : Nat} {d e a b : Nat} {ob : Ob} {q : Bool} {xs ys : List Value} {x y : Obj}
    (hx : look X.V T a d = some x) (hy : look X.V T b e = some y) (hxs : seqOf nTuple x = some xs) (hys : seqOf nTuple y = some ys)
    (ha : veqs xs ys = some q) (ho : (owe X.V a d (owe X.V b e ob)).Holds) :
    ob.Holds ∧ Comes X c p κ T m i (.call (.builtin "tuple.__ne__") ⟨[.ref a, .ref b], []⟩) (!q) := by
  obtain ⟨k, rfl⟩ := seqOf_of nTuple_eq hxs
  obtain ⟨k', rfl⟩ := seqOf_of nTuple_eq hys
  refine ⟨owe_holds (owe_holds ho), fun s D R hR => here' fun A hA => ?_⟩
  obtain ⟨h2, en, he, hq⟩ := veqs_at (A := A.in1) (s := s) xs ys _ ha
  exact code_tupleNe (rep_look O D hx ho).2 (rep_look O D hy (owe_holds ho)).2 h2 he (hq ▸ hR)

theorem goal_ansE {X : Env0} (O : X.OK) {κ : List KFr} {c c' : Code} {p : Pos} {T : BT} {m i : Nat} {h d e f g n : Nat} {ob ob' : Ob} {q : Bool}
    (hn : n = κ.length + X.V.bel.length) (ha : ansE X.V h d e f g n c' T ob = some (q, ob')) (ho : ob'.Holds) :
    ob.Holds ∧ Comes X c p κ T m i c' q := by
  cases c' with
  | call fn as => cases fn with
    | builtin id =>
      obtain ⟨ps, kw⟩ := as
      cases kw with
      | cons _ _ => cases ha
      | nil =>
        unfold ansE at ha
        dsimp only at ha
        split at ha
        · rename_i a b
          cases hx : look X.V T a d with
          | none => rw [hx] at ha; cases ha
          | some x =>
            rw [hx] at ha
            dsimp only at ha
            cases hy : look X.V T b e with
            | none => rw [hy] at ha; cases ha
            | some y =>
              rw [hy] at ha
              dsimp only at ha
              split at ha
              · cases hb : Nat.blt n 900 with
                | false => rw [hb] at ha; cases ha
                | true =>
                  rw [hb] at ha
                  dsimp only at ha
                  cases hi : idIs nListIn id with
                  | false => rw [hi] at ha; cases ha
                  | true =>
                    rw [hi] at ha
                    dsimp only at ha
                    cases hxs : seqOf nList x with
                    | none => rw [hxs] at ha; cases ha
                    | some xs =>
                      rw [hxs] at ha
                      dsimp only at ha
                      cases hys : seqOf nTuple y with
                      | none => rw [hys] at ha; cases ha
                      | some ys =>
                        rw [hys] at ha
                        dsimp only at ha
                        cases e with
                        | zero => cases ha
                        | succ e => cases e with
                          | zero => cases ha
                          | succ e =>
                            have hid := idIs_eq nListIn_eq hi
                            subst hid
                            exact ansE_5 O hn hb hx hy hxs hys ha ho
              · cases hi : idIs nListNe id with
                | false => rw [hi] at ha; cases ha
                | true =>
                  rw [hi] at ha
                  dsimp only at ha
                  have hid := idIs_eq nListNe_eq hi
                  subst hid
                  cases hxs : seqOf nList x with
                  | none => rw [hxs] at ha; cases ha
                  | some xs =>
                    rw [hxs] at ha
                    dsimp only at ha
                    cases hys : seqOf nList y with
                    | none => rw [hys] at ha; cases ha
                    | some ys =>
                      rw [hys] at ha
                      dsimp only at ha
                      cases hl : Nat.beq xs.length ys.length with
                      | true => rw [hl] at ha; exact ansE_6 O hx hy hxs hys ha ho
                      | false =>
                        rw [hl] at ha
                        cases ha
                        exact ansE_6' O hx hy hxs hys (Nat.ne_of_beq_eq_false hl) ho
              · cases hi : idIs nTupleNe id with
                | false => rw [hi] at ha; cases ha
                | true =>
                  rw [hi] at ha
                  dsimp only at ha
                  have hid := idIs_eq nTupleNe_eq hi
                  subst hid
                  cases hxs : seqOf nTuple x with
                  | none => rw [hxs] at ha; cases ha
                  | some xs =>
                    rw [hxs] at ha
                    dsimp only at ha
                    cases hys : seqOf nTuple y with
                    | none => rw [hys] at ha; cases ha
                    | some ys =>
                      rw [hys] at ha
                      dsimp only at ha
                      cases hv : veqs xs ys with
                      | none => rw [hv] at ha; cases ha
                      | some r =>
                        rw [hv] at ha
                        cases ha
                        exact ansE_7 O hx hy hxs hys hv ho
              · cases ha
        · cases ha
    | _ => cases ha
  | _ => cases ha
end Mine
end
section
set_option maxRecDepth 100000
set_option linter.unusedSectionVars false
open PySem PySem.W PySem.Calls PyProof.Rows
open PySem.Sem (wp)
namespace Mine

theorem nGet_eq : PySem.code "dict.__getitem__" = nGet := by rw [S.code_S]; kernel_rfl
theorem nGetD_eq : PySem.code "dict.get" = nGetD := by rw [S.code_S]; kernel_rfl
theorem nIn_eq : PySem.code "dict.__contains__" = nIn := by rw [S.code_S]; kernel_rfl
theorem nSet_eq : PySem.code "dict.__setitem__" = nSet := by rw [S.code_S]; kernel_rfl

noncomputable def oweCall (V : SV) (c' : Code) (d : Nat) (ob : Ob) : Ob := match c' with | .call _ ⟨.ref a :: _, _⟩ => owe V a d ob | _ => ob

theorem owe_imp {V : SV} {a d : Nat} {ob : Ob} (h : (owe V a d ob).Holds) : ob.Holds := by
  revert h
  unfold owe
  split
  · exact id
  · split
    · exact id
    · exact fun q => q.2

theorem goal_ans {X : Env0} (O : X.OK) {κ : List KFr} {c c' : Code} {p : Pos} {T T' : BT} {m i : Nat} {h d : Nat} {ob : Ob} {v : Value}
    (hi1 : X.V.inc i = 1) (ha : ans X.V h d c' T = some (v, T')) (ho : (oweCall X.V c' d ob).Holds) :
    ob.Holds ∧ ∀ s, Rep X T m i s → ∀ R : Result → Shared → Prop, (∀ s', Rep X T' m (i + 1) s' → R (.ok (.ret v)) s') → wpCode (model X.V.prog X.V.w) ((ctx X κ c).enter c' none p) R p s := by
  cases c' with
  | call fn as => cases fn with
    | builtin id =>
      obtain ⟨ps, kw⟩ := as
      cases kw with
      | cons _ _ => cases ha
      | nil =>
        unfold ans at ha
        dsimp only at ha
        split at ha
        · rename_i a q r
          have ho' : (owe X.V a d ob).Holds := ho
          refine ⟨owe_imp ho', fun s D R hR => ?_⟩
          cases hx : look X.V T a d with
          | none => rw [hx] at ha; cases ha
          | some x =>
            have hs := (rep_look O D hx ho').2
            rw [hx] at ha
            dsimp only at ha
            cases he : entriesOf x with
            | none => rw [he] at ha; cases ha
            | some es =>
              rw [he] at ha
              dsimp only at ha
              cases q with
              | str k t =>
                dsimp only at ha
                split at ha
                · cases r with
                  | cons _ _ => cases ha
                  | nil =>
                    dsimp only at ha
                    cases hi : idIs nGet id with
                    | false => rw [hi] at ha; cases ha
                    | true =>
                      rw [hi] at ha
                      dsimp only at ha
                      have hid := idIs_eq nGet_eq hi
                      subst hid
                      cases hf : dfind k es with
                      | none => rw [hf] at ha; cases ha
                      | some v =>
                        rw [hf] at ha
                        cases ha
                        exact here fun A => code_getitem hs he hf (hR _ (rep_fresh O D hi1))
                · cases r with
                  | cons _ _ => cases ha
                  | nil =>
                    dsimp only at ha
                    cases hi : idIs nGetD id with
                    | false => rw [hi] at ha; cases ha
                    | true =>
                      rw [hi] at ha
                      dsimp only at ha
                      have hid := idIs_eq nGetD_eq hi
                      subst hid
                      cases hm : Nat.beq a sysModules with
                      | true => rw [hm] at ha; cases ha
                      | false =>
                        rw [hm] at ha
                        dsimp only at ha
                        cases hf : dfind k es with
                        | none =>
                          rw [hf] at ha
                          cases ha
                          exact here fun A => code_get (beq_false_of_ne (Nat.ne_of_beq_eq_false hm)) hs he (by rw [hf]; exact hR _ (rep_fresh O D hi1))
                        | some v =>
                          rw [hf] at ha
                          cases ha
                          exact here fun A => code_get (beq_false_of_ne (Nat.ne_of_beq_eq_false hm)) hs he (by rw [hf]; exact hR _ (rep_fresh O D hi1))
                · cases r with
                  | cons _ _ => cases ha
                  | nil =>
                    dsimp only at ha
                    cases hi : idIs nIn id with
                    | false => rw [hi] at ha; cases ha
                    | true =>
                      rw [hi] at ha
                      dsimp only at ha
                      have hid := idIs_eq nIn_eq hi
                      subst hid
                      cases hm : Nat.beq a sysModules with
                      | true => rw [hm] at ha; cases ha
                      | false =>
                        rw [hm] at ha
                        cases ha
                        exact here fun A => code_in (beq_false_of_ne (Nat.ne_of_beq_eq_false hm)) hs he (hR _ (rep_fresh O D hi1))
                · cases r with
                  | nil => cases ha
                  | cons v r =>
                    cases r with
                    | cons _ _ => cases ha
                    | nil =>
                      dsimp only at ha
                      cases hi : idIs nSet id with
                      | false => rw [hi] at ha; cases ha
                      | true =>
                        rw [hi] at ha
                        dsimp only at ha
                        have hid := idIs_eq nSet_eq hi
                        subst hid
                        cases d with
                        | zero => cases ha
                        | succ d => cases d with
                          | zero => cases ha
                          | succ d =>
                            dsimp only at ha
                            cases hf : didx k es with
                            | none => rw [hf] at ha; cases ha
                            | some j =>
                              rw [hf] at ha
                              cases ha
                              obtain ⟨rfl, _⟩ : a = addr X.V d ∧ ob.Holds := ho'
                              refine here fun A => code_set hs he hf ?_
                              have hT : T.get d = some x := hx
                              have := rep_fresh O (rep_update O D (f := Obj.mapDict fun es => es.modify j fun e => { e with val := v }) hT (by obtain ⟨ep, rfl, _⟩ := entries_of he; rfl)) hi1
                              exact hR _ this
                · cases ha
              | _ => cases ha
        · cases ha
    | _ => cases ha
  | _ => cases ha
end Mine
end
section
set_option maxRecDepth 100000
set_option linter.unusedSectionVars false
open PySem PySem.W PySem.Calls PyProof.Rows
open PySem.Sem (wp)
namespace Mine
theorem nInit_eq : PySem.code "bytearray.__init__" = nInit := by rw [S.code_S]; kernel_rfl
theorem nBA_eq : PySem.code "bytearray" = nBA := by rw [S.code_S]; kernel_rfl
theorem slot_ba : Slot "bytearray" "__init__" "bytearray.__init__" :=
  .of (owner := "bytearray") (n := "__init__") (by rw [typeLookup_type, builtinLookup_eq_fast]; kernel_rfl) (by decide +kernel) (by decide +kernel) (by decide +kernel) (by decide +kernel) (by kernel_rfl)
theorem entry_ba : entryFor table "bytearray.__init__" = some Builtin.«bytearray.__init__» := entryFor_of_tree (by kernel_rfl)
theorem args_ba (a b : Value) : argsOk "bytearray.__init__" ⟨[a, b], []⟩ := by unfold argsOk; kernel_rfl
theorem look_rb : typeLookup (.type "bytearray") "__release_buffer__" = pure (some (.builtin "bytearray.__release_buffer__")) := by rw [typeLookup_type, builtinLookup_eq_fast]; kernel_rfl
theorem look_ix : typeLookup (.type "int") "__index__" = pure (some (.builtin "int.__index__")) := by rw [typeLookup_type, builtinLookup_eq_fast]; kernel_rfl
theorem sub_ba : isSubtype (.type "bytearray") (.type "bytearray") = pure true := by kernel_rfl
section
variable {prog : Program} {w : World} {A : Around} {E : Value → Shared → Prop} {s : Shared} {a : Addr} {n : Int} {t : Tok}
noncomputable abbrev ba (b : Array UInt8) : Obj := ⟨.type "bytearray", none, .bytearray b 0, #[]⟩
theorem own_ba {b : Array UInt8} {Q : Bool → Shared → Prop} (ho : s.heap.get? a = some (ba b)) (h : Q false s) : wpAny (model prog w) A (Builtin.Bytes.ownRelease (.ref a)) Q E s := by
  unfold Builtin.Bytes.ownRelease Builtin.Bytes.slotIsOwn
  refine wpAny_bind (wpAny_bind (wpAny_specialOf ⟨_, ho, rfl⟩ look_rb ?_))
  show wpAny _ _ (if _ then _ else _) _ _ _
  split
  · rename_i hx
    exact absurd hx (by decide +kernel)
  · have key : ∀ x : String, x = "bytearray" → wpAny (model prog w) A (isInstance (.ref a) (.type x)) (fun r s' => wpAny (model prog w) A (pure !r) Q E s') E s := fun x hx => by
      rw [hx]; exact wpAny_isInstance ⟨_, ho, rfl⟩ sub_ba (wpAny_pure h)
    exact key _ (by decide +kernel)
end

theorem lift {α : Type} {M : Model} {Γ : Ctx} {m : Sem α} {Q : α → Shared → Prop} {E : Value → Shared → Prop} {Q' : α → Pos → Shared → Prop} {E' : Value → Pos → Shared → Prop} {p : Pos} {s : Shared}
    (h : ∀ A, wpAny M A m Q E s) (hQ : ∀ x p s', Q x s' → Q' x p s') (hE : ∀ e p s', E e s' → E' e p s') : wp M Γ m Q' E' p s := by
  refine Sem.wp_mono M Γ m (fun x p s' q => hQ x p s' q) (fun e p s' q => hE e p s' q) p s
    (h { handled := Γ.handled, depth := frameCount Γ.below + Γ.code.weight, frames := none, guards := none, units := Γ.units } Γ p
      ⟨rfl, Nat.le_refl _, fun _ q => (nomatch q), fun _ q => (nomatch q), Nat.le_refl _⟩)

noncomputable def heldBy (self : Value) : Code × Pos → Bool := fun
    | (.builtin "bytearray.__contains__" ⟨v :: _, _⟩, _) | (.builtin "bytearray.__mod__" ⟨v :: _, _⟩, _)
    | (.builtin "bytearray.__rmod__" ⟨_ :: v :: _, _⟩, _) | (.builtin "_struct.pack_into.held" ⟨v :: _, _⟩, _) => Builtin.Bytes.sameRef v self
    | (.builtin "bytearray.find.held" ⟨_ :: _ :: held, _⟩, _) => held.any (Builtin.Bytes.sameRef self)
    | (.builtin id ⟨v :: _, _⟩, _) => Builtin.Bytes.sameRef v self && Builtin.Bytes.decodersThatHold.contains id
    | _ => false
theorem exported_eq (self : Value) : Builtin.Bytes.exported self = (do return (← stack).any (heldBy self)) := rfl

theorem bind_ba (n : Int) (t : Tok) : Builtin.Bytes.bindOptional "bytearray.__init__" "bytearray" ["source", "encoding", "errors"] [.int n t] [] = pure [some (.int n t), none, none] := by
  rfl

section
variable {prog : Program} {w : World} {A : Around} {E : Value → Shared → Prop} {s : Shared} {a : Addr} {n : Int} {t : Tok}
theorem write_ba {b : Array UInt8} {f : Array UInt8 → Array UInt8} {Q : Unit → Shared → Prop} (ho : s.heap.get? a = some (ba b)) (hz : (f b).size ≤ sizeLine)
    (h : Q () { s with heap := s.heap.update a (Obj.mapBytearray f) }) : wpAny (model prog w) A (Builtin.Bytes.write (.ref a) f) Q E s := by
  show wpAny _ _ (updateBytearray a f) _ _ _
  unfold updateBytearray
  refine wpAny_bind (wpAny_load ho ?_)
  show wpAny _ _ (update a (Obj.mapBytearray f) >>= fun _ => lookBehind a) _ _ _
  refine wpAny_bind (wpAny_update ho ?_)
  refine wpAny_lookBehind (Heap.get?_update_self (Obj.mapBytearray f) ho rfl) ?_ h
  show (if (f b).size > sizeLine then some "bytearray:memory" else none) = none
  rw [if_neg (by omega)]
end

theorem ba_body {prog : Program} {w : World} {Γ : Ctx} {s : Shared} {p : Pos} {a : Addr} {n : Int} {t : Tok} (ho : s.heap.get? a = some (ba #[])) (h1 : 1 ≤ n) (h2 : n ≤ 64)
    (hx : ∀ p, ((Γ.code, p) :: Γ.below).any (heldBy (.ref a)) = false) :
    wp (model prog w) Γ (Builtin.«bytearray.__init__» ⟨[.ref a, .int n t], []⟩) (fun fin _ s' => fin = .done (.ret .none) ∧
      s' = { s with heap := (s.heap.update a (Obj.mapBytearray fun _ => #[])).update a (Obj.mapBytearray fun _ => Array.replicate n.toNat 0) }) (fun _ _ _ => False) p s := by
  unfold Builtin.«bytearray.__init__»
  rw [Sem.wp_bind']
  refine lift (Q := fun b s' => b = false ∧ s' = s) (E := fun _ _ => False) (fun A => own_ba ho ⟨rfl, rfl⟩) (fun b p s' h => ?_) (fun _ _ _ h => h)
  obtain ⟨rfl, rfl⟩ := h
  simp only [Bool.false_eq_true, if_false, bind_ba]
  rw [Sem.wp_bind', Sem.wp_pure']
  show wp _ _ (Builtin.Bytes.checkCodecArg "bytearray.__init__" "bytearray" "encoding" none >>= _) _ _ _ _
  rw [Sem.wp_bind', show Builtin.Bytes.checkCodecArg "bytearray.__init__" "bytearray" "encoding" none = pure () from rfl, Sem.wp_pure',
    Sem.wp_bind', show Builtin.Bytes.checkCodecArg "bytearray.__init__" "bytearray" "errors" none = pure () from rfl, Sem.wp_pure', exported_eq]
  rw [Sem.wp_bind']
  show wp _ _ ((do return (← stack).any (heldBy (.ref a)) : Sem Bool) >>= fun b => match toBool b with | true => pure b | false => (do return (← Builtin.Bytes.exportsOf (.ref a)) > 0 : Sem Bool)) _ _ _ _
  rw [Sem.wp_bind', Sem.wp_bind', show (stack : Sem (List (Code × Pos))) = .stack .pure from rfl, Sem.wp_stack, Sem.wp_pure, Sem.wp_pure', hx p]
  show wp _ _ (do return (← Builtin.Bytes.exportsOf (.ref a)) > 0 : Sem Bool) _ _ _ _
  rw [Sem.wp_bind']
  show wp _ _ (load a >>= fun o => _) _ _ _ _
  rw [Sem.wp_bind', show (load a : Sem Obj) = .load a none .pure from rfl, Sem.wp_load]
  refine ⟨_, ho, ?_⟩
  rw [Sem.wp_pure]
  show wp _ _ (pure 0 : Sem Nat) _ _ _ _
  rw [Sem.wp_pure', Sem.wp_pure']
  simp only [gt_iff_lt, Nat.lt_irrefl, decide_false, Bool.false_eq_true, if_false]
  refine lift (Q := fun fin s₂ => fin = .done (.ret .none) ∧ s₂ = { s' with heap := (s'.heap.update a (Obj.mapBytearray fun _ => #[])).update a (Obj.mapBytearray fun _ => Array.replicate n.toNat 0) })
    (E := fun _ _ => False) (fun A => ?_) (fun _ _ _ h => h) (fun _ _ _ h => h)
  refine wpAny_bind (write_ba ho (Nat.zero_le _) ?_)
  have ho' : (s'.heap.update a (Obj.mapBytearray fun _ => #[])).get? a = some (ba #[]) := Heap.get?_update_self _ ho rfl
  show wpAny _ _ (asStr? (.int n t) >>= _) _ _ _
  refine wpAny_bind (wpAny_of_eq (rfl : asStr? (.int n t) = pure none) ?_)
  simp only [Option.isSome_none, Bool.false_eq_true, if_false]
  refine wpAny_bind (wpAny_pure ?_)
  show wpAny _ _ (specialOf (.int n t) "__index__" >>= _) _ _ _
  refine wpAny_bind (wpAny_of_eq (a := some (.builtin "int.__index__")) (show specialOf (.int n t) "__index__" = pure (some (.builtin "int.__index__")) from look_ix) ?_)
  simp only [Option.isSome_some, if_true]
  show wpAny _ _ ((asIndex (.int n t)).attempt >>= _) _ _ _
  refine wpAny_bind (wpAny_of_eq (a := .ok n) (rfl : (asIndex (.int n t)).attempt = pure (.ok n)) ?_)
  have f1 : Builtin.Bytes.fitsIndex n = true := by
    unfold Builtin.Bytes.fitsIndex; simp; omega
  have f2 : (n == 2 ^ 63 - 1) = false := by rw [beq_eq_false_iff_ne]; omega
  have f3 : Builtin.Bytes.tooLong n.toNat = false := by
    unfold Builtin.Bytes.tooLong; rw [sizeLine_eq]; exact decide_eq_false (by omega)
  have f4 : ¬ n < 0 := by omega
  have f5 : n > 0 := by omega
  simp only [f1, f2, f3, f4, f5, Bool.not_true, Bool.false_eq_true, if_false, if_true]
  refine wpAny_bind (wpAny_rule ?_)
  refine wpAny_bind (write_ba ho' (by rw [Array.size_replicate, sizeLine_eq]; omega) ?_)
  exact wpAny_pure ⟨rfl, rfl⟩

theorem held_init (v x : Value) (r : List Value) (kw : List (Str × Value)) (q : Pos) : heldBy v (.builtin "bytearray.__init__" ⟨x :: r, kw⟩, q) = (Builtin.Bytes.sameRef x v && Builtin.Bytes.decodersThatHold.contains "bytearray.__init__") := by kernel_rfl
theorem call_at (as : Args) : denote table (.call (.builtin "bytearray.__init__") as) = (do checkBuiltinCall "bytearray.__init__" as; again (.builtin "bytearray.__init__" as)) := by kernel_rfl
theorem builtin_at {id : String} {as : Args} {b : Builtin} (h : entryFor table id = some b) : denote table (.builtin id as) = b as := by
  show (match entryFor table id with | some b => b as | none => unsupported ((withoutEnding? id "#data").getD id)) = _
  rw [h]
theorem den_at {prog : Program} {w : World} {id : String} {as : Args} {b : Builtin} (h : entryFor table id = some b) : (model prog w).den (.builtin id as) = b as := builtin_at h
theorem dcall_at {prog : Program} {w : World} (as : Args) : (model prog w).den (.call (.builtin "bytearray.__init__") as) = (do checkBuiltinCall "bytearray.__init__" as; again (.builtin "bytearray.__init__" as)) := call_at as
theorem code_init {X : Env0} {κ : List KFr} {c : Code} {p p₀ : Pos} {s : Shared} {a : Addr} {n : Int} {t : Tok} {R : Result → Shared → Prop} (ho : s.heap.get? a = some (ba #[])) (h1 : 1 ≤ n) (h2 : n ≤ 64)
    (hx : ∀ p, ((c, p) :: (ctx X κ c).below).any (heldBy (.ref a)) = false)
    (hR : R (.ok (.ret .none)) { s with heap := (s.heap.update a (Obj.mapBytearray fun _ => #[])).update a (Obj.mapBytearray fun _ => Array.replicate n.toNat 0) }) :
    wpCode (model X.V.prog X.V.w) ((ctx X κ c).enter (.call (.builtin "bytearray.__init__") ⟨[.ref a, .int n t], []⟩) none p) R p₀ s := by
  rw [wpCode_iff_wp]
  show wp _ _ ((model X.V.prog X.V.w).den (.call (.builtin "bytearray.__init__") ⟨[.ref a, .int n t], []⟩)) _ _ _ _
  rw [dcall_at]
  rw [Sem.wp_bind']
  refine lift (Q := fun _ s' => s' = s) (E := fun _ _ => False) (fun A => slot_ba.check _ _ _ _ _ _ _ _ ⟨_, ho, rfl⟩ (args_ba _ _) rfl) (fun _ p₁ s' h => ?_) (fun _ _ _ h => h.elim)
  subst h
  show wp _ _ (pure (Fin.again (.builtin "bytearray.__init__" ⟨[.ref a, .int n t], []⟩))) _ _ _ _
  rw [Sem.wp_pure']
  refine ⟨plainId_quiet slot_ba.plain _, ?_⟩
  rw [wpCode_iff_wp]
  show wp _ _ ((model X.V.prog X.V.w).den (.builtin "bytearray.__init__" ⟨[.ref a, .int n t], []⟩)) _ _ _ _
  rw [den_at entry_ba]
  refine Sem.wp_mono _ _ _ (fun fin p' s₂ h => ?_) (fun _ _ _ h => h.elim) _ _ (ba_body ho h1 h2 fun q => ?_)
  · obtain ⟨rfl, rfl⟩ := h
    exact hR
  · have := hx p
    show ((Code.builtin "bytearray.__init__" ⟨[.ref a, .int n t], []⟩, q) :: (c, p) :: (ctx X κ c).below).any (heldBy (.ref a)) = false
    rw [List.any_cons, this, Bool.or_false]
    rw [held_init, show Builtin.Bytes.decodersThatHold.contains "bytearray.__init__" = false by decide +kernel, Bool.and_false]

theorem inL_eq (n : Nat) : ∀ l : List Nat, inL n l = true ↔ n ∈ l
  | [] => by simp [inL]
  | a :: l => by
    unfold inL
    cases h : Nat.beq a n with
    | true => have := Nat.eq_of_beq_eq_true h; subst this; simp
    | false => have := Nat.ne_of_beq_eq_false h; simp only [List.mem_cons, inL_eq n l]; exact ⟨.inr, fun q => q.elim (fun q => absurd q.symm this) id⟩
theorem holders_all : ∀ x ∈ ["bytearray.__contains__", "bytearray.__mod__", "bytearray.__rmod__", "_struct.pack_into.held", "bytearray.find.held"] ++ Builtin.Bytes.decodersThatHold, inL (S.codeS x) holders = true := by
  decide +kernel
theorem not_held {c : Code} {p : Pos} {self : Value} (h : isHolder c = false) : heldBy self (c, p) = false := by
  have no : ∀ x ∈ ["bytearray.__contains__", "bytearray.__mod__", "bytearray.__rmod__", "_struct.pack_into.held", "bytearray.find.held"] ++ Builtin.Bytes.decodersThatHold, ∀ as, c ≠ .builtin x as := by
    intro x hx as e
    subst e
    have := holders_all x hx
    have h' : inL (S.codeS x) holders = false := h
    rw [this] at h'
    cases h'
  unfold heldBy
  split
  · rename_i e; cases e; exact absurd rfl (no _ (by simp) _)
  · rename_i e; cases e; exact absurd rfl (no _ (by simp) _)
  · rename_i e; cases e; exact absurd rfl (no _ (by simp) _)
  · rename_i e; cases e; exact absurd rfl (no _ (by simp) _)
  · rename_i e; cases e; exact absurd rfl (no _ (by simp) _)
  · rename_i e
    cases e
    rw [Bool.and_eq_false_iff]
    refine .inr ?_
    rw [← Bool.not_eq_true]
    intro q
    exact no _ (List.mem_append_right _ (by simpa using q)) _ rfl
  · rfl
theorem stOK_any {self : Value} : ∀ κ : List KFr, stOK κ = true → (κ.map fun f => (f.c, f.p)).any (heldBy self) = false
  | [], _ => rfl
  | f :: κ, h => by
    unfold stOK at h
    rw [Bool.and_eq_true, Bool.not_eq_true'] at h
    rw [List.map_cons, List.any_cons, not_held h.1, stOK_any κ h.2]; rfl
theorem belOK_any {self : Value} : ∀ l : List (Code × Pos), belOK l = true → l.any (heldBy self) = false
  | [], _ => rfl
  | f :: κ, h => by
    obtain ⟨c, p⟩ := f
    unfold belOK at h
    rw [Bool.and_eq_true, Bool.not_eq_true'] at h
    rw [List.any_cons, not_held h.1, belOK_any κ h.2]; rfl

theorem emptyBA_of {x : Obj} (h : emptyBA x = true) : x = ba #[] := by
  obtain ⟨c, d, dt, sl⟩ := x
  unfold emptyBA at h
  dsimp only at h
  split at h
  · rename_i n
    cases q : idIs nBA n with
    | false => rw [q] at h; cases h
    | true =>
      rw [q] at h
      dsimp only at h
      have hn := idIs_eq nBA_eq q
      subst hn
      split at h
      · split at h
        · rename_i b e
          split at h
          · rename_i qb
            split at h
            · split at h
              · rename_i qs
                have e1 : b = #[] := Array.ext' qb
                have e2 : sl = #[] := Array.ext' qs
                subst e1 e2; rfl
              · cases h
            · cases h
          · cases h
        · cases h
      · cases h
  · cases h
theorem inB_of {n : Int} (h : inB n = true) : 1 ≤ n ∧ n ≤ 64 := by
  unfold inB at h
  split at h
  · rename_i k
    split at h
    · rename_i q
      have h1 : 1 ≤ k := Nat.le_of_ble_eq_true q
      have h2 : k ≤ 64 := Nat.le_of_ble_eq_true h
      exact ⟨by show (1 : Int) ≤ (k : Int); omega, by show (k : Int) ≤ (64 : Int); omega⟩
    · cases h
  · cases h

theorem goal_ansB {X : Env0} (O : X.OK) {κ : List KFr} {c c' : Code} {p : Pos} {T T' : BT} {m i : Nat} {d : Nat} {ob : Ob}
    (ha : ansB X.V d c κ c' T = some T') (ho : (match c' with | .call _ ⟨.ref a :: _, _⟩ => owe X.V a d ob | _ => ob).Holds) :
    ob.Holds ∧ ∀ s, Rep X T m i s → ∀ R : Result → Shared → Prop, (∀ s', Rep X T' m i s' → R (.ok (.ret .none)) s') → wpCode (model X.V.prog X.V.w) ((ctx X κ c).enter c' none p) R p s := by
  cases c' with
  | call fn as => cases fn with
    | builtin id =>
      obtain ⟨ps, kw⟩ := as
      cases kw with
      | cons _ _ => cases ha
      | nil =>
        unfold ansB at ha
        dsimp only at ha
        split at ha
        · rename_i a n t
          cases hi : idIs nInit id with
          | false => rw [hi] at ha; cases ha
          | true =>
            rw [hi] at ha
            dsimp only at ha
            have hid := idIs_eq nInit_eq hi
            subst hid
            cases d with
            | zero => cases ha
            | succ d => cases d with
              | zero => cases ha
              | succ d =>
                dsimp only at ha
                cases hx : T.get d with
                | none => rw [hx] at ha; cases ha
                | some x =>
                  rw [hx] at ha
                  dsimp only at ha
                  cases he : emptyBA x with
                  | false => rw [he] at ha; cases ha
                  | true =>
                    rw [he] at ha
                    dsimp only at ha
                    cases hb : inB n with
                    | false => rw [hb] at ha; cases ha
                    | true =>
                      rw [hb] at ha
                      dsimp only at ha
                      cases hc : (!isHolder c && (stOK κ && belOK X.V.bel)) with
                      | false => rw [hc] at ha; cases ha
                      | true =>
                        rw [hc] at ha
                        cases ha
                        obtain ⟨rfl, ho⟩ : a = addr X.V d ∧ ob.Holds := ho
                        refine ⟨ho, fun s D R hR => ?_⟩
                        rw [Bool.and_eq_true, Bool.and_eq_true, Bool.not_eq_true'] at hc
                        have := emptyBA_of he
                        subst this
                        have hT1 : (T.set d (Obj.mapBytearray fun _ => #[])).get d = some (ba #[]) := by
                          rw [BT.get_set, if_pos rfl, hx]; rfl
                        refine code_init (D.slot _ _ hx).2 (inB_of hb).1 (inB_of hb).2 (fun p => ?_) (hR _ (rep_update O (rep_update O D hx rfl) hT1 rfl))
                        show ((c, p) :: ((κ.map fun f => (f.c, f.p)) ++ X.V.bel)).any _ = false
                        rw [List.any_cons, List.any_append, not_held hc.1, stOK_any _ hc.2.1, belOK_any _ hc.2.2]; rfl
        · cases ha
    | _ => cases ha
  | _ => cases ha
end Mine
end
section
set_option maxRecDepth 100000
set_option linter.unusedSectionVars false
set_option linter.unusedVariables false
open PySem PySem.W PySem.Calls PyProof.Rows
open PySem.Sem (wp)
namespace Mine

noncomputable def G (X : Env0) (c : Code) (p : Pos) (κ : List KFr) (t : Sem Fin) (T : BT) (m i : Nat) : Prop := ∀ s, Rep X T m i s → Goal X κ c t p s

noncomputable def Step (X : Env0) (ih : Ty) (c : Code) (p : Pos) (κ : List KFr) (t : Sem Fin) (T : BT) (m i : Nat) (ob : Ob) (R : St) : Prop :=
  ∃ c' p' κ' t' T' m' i' o' os' ob', R = ih c' p' κ' t' T' m' i' o' os' ob' ∧ (ob'.Holds → ob.Holds ∧ (G X c' p' κ' t' T' m' i' → G X c p κ t T m i))

theorem pop_elim {P : St → Prop} {o : Nat} {os : List Nat} {ob : Ob} {K : Nat → Nat → List Nat → Ob → St}
    (h : ∀ d o' os' ob', (ob'.Holds → ob.Holds) → P (K d o' os' ob')) : P (pop o os ob K) := by
  unfold pop
  split
  · exact h _ _ _ _ id
  · split
    · exact h _ _ _ _ id
    · exact h _ _ _ _ fun x => x.1

theorem Step.of {X : Env0} {ih : Ty} {c : Code} {p : Pos} {κ : List KFr} {t : Sem Fin} {T : BT} {m i : Nat} {ob ob₀ : Ob} {R : St} (hob : ob.Holds → ob₀.Holds)
    (h : Step X ih c p κ t T m i ob R) : Step X ih c p κ t T m i ob₀ R := by
  obtain ⟨c', p', κ', t', T', m', i', o', os', ob', e, h⟩ := h
  exact ⟨c', p', κ', t', T', m', i', o', os', ob', e, fun x => ⟨hob (h x).1, (h x).2⟩⟩

variable {X : Env0}
theorem goal_done {g : KFr} {κ : List KFr} {c : Code} {f : Flow} {p : Pos} {s : Shared} (h : Goal X κ g.c (g.k (.ok f)) g.p s) : Goal X (g :: κ) c (.pure (.done f)) p s := by
  rw [goal_eq, Sem.wp_pure]; exact h
theorem goal_raise {g : KFr} {κ : List KFr} {c : Code} {e : Value} {p : Pos} {s : Shared} (h : Goal X κ g.c (g.k (.error e)) g.p s) : Goal X (g :: κ) c (.raise e) p s := by
  rw [goal_eq, Sem.wp_raise]; exact h
theorem goal_again (O : X.OK) {κ : List KFr} {c c' : Code} {p : Pos} {s : Shared} (hq : c'.quiet = true) (h : Goal X κ c' (X.V.D c') p s) : Goal X κ c (.pure (.again c')) p s := by
  rw [goal_eq, Sem.wp_pure]
  refine ⟨hq, (wpCode_iff_wp _ _ _ _ _).mpr ?_⟩
  rw [goal_eq, O.den] at h
  exact h
theorem goal_call (O : X.OK) {κ : List KFr} {c c' : Code} {p : Pos} {s : Shared} {g : Bool} {l : List Value} {k : Result → Sem Fin} (h : Goal X (⟨k, c, p⟩ :: κ) c' (X.V.D c') p s) :
    Goal X κ c (.call c' none g l k) p s := by
  rw [goal_eq, Sem.wp_call]
  refine (wpCode_iff_wp _ _ _ _ _).mpr ?_
  rw [goal_eq, O.den] at h
  have e : back X (⟨k, c, p⟩ :: κ) = fun r s' => wp (model X.V.prog X.V.w) (ctx X κ c) (k r) (Sem.finPost (model X.V.prog X.V.w) (ctx X κ c) (back X κ)) (fun e _ s' => back X κ (.error e) s') p s' := by
    funext r s'; exact goal_eq X κ c (k r) p s'
  rw [e] at h
  exact h
theorem goal_spec {κ : List KFr} {c c' : Code} {p : Pos} {s : Shared} {g : Bool} {l : List Value} {k : Result → Sem Fin}
    (h : wpCode (model X.V.prog X.V.w) ((ctx X κ c).enter c' none p) (fun r s' => Goal X κ c (k r) p s') p s) :
    Goal X κ c (.call c' none g l k) p s := by
  rw [goal_eq, Sem.wp_call]
  refine wpCode_mono (fun r s' h => ?_) h
  rw [goal_eq] at h; exact h
theorem goal_load {κ : List KFr} {c : Code} {p : Pos} {s : Shared} {a : Addr} {h : Option Value} {k : Obj → Sem Fin} {x : Obj} (hx : s.heap.get? a = some x) (hg : Goal X κ c (k x) p s) :
    Goal X κ c (.load a h k) p s := by
  rw [goal_eq, Sem.wp_load]; rw [goal_eq] at hg; exact ⟨x, hx, hg⟩
theorem goal_update {κ : List KFr} {c : Code} {p : Pos} {s : Shared} {a : Addr} {h : Option Value} {f : Obj → Obj} {k : Unit → Sem Fin} {x : Obj} (hx : s.heap.get? a = some x)
    (hg : Goal X κ c (k ()) p { s with heap := s.heap.update a f }) : Goal X κ c (.update a h f k) p s := by
  rw [goal_eq, Sem.wp_update]; rw [goal_eq] at hg; exact ⟨by rw [hx]; rfl, hg⟩

theorem nEnum_eq : PySem.code "enumerate" = nEnum := by rw [S.code_S]; kernel_rfl
theorem lot_of {x : Obj} {b : Nat} (hl : lotOK x = some b) : ∃ d vs sl, x = ⟨.type "enumerate", d, .fields vs, sl⟩ ∧ vs[0]? = some (rawInt (b : Int)) := by
  obtain ⟨c, d, dt, sl⟩ := x
  unfold lotOK at hl
  dsimp only at hl
  split at hl
  · split at hl
    · rename_i n q
      split at hl
      · rename_i vs
        split at hl
        · rename_i z tk l qs
          split at hl
          · split at hl
            · cases hl
              have hn := idIs_eq nEnum_eq q
              subst hn
              refine ⟨_, _, _, rfl, ?_⟩
              rw [← Array.getElem?_toList, qs]; rfl
            · cases hl
          · cases hl
        · cases hl
      · cases hl
    · cases hl
  · cases hl
theorem lot_live {x : Obj} {b : Nat} (hl : lotOK x = some b) : (lotF x).isFreed = false := by
  obtain ⟨d, vs, sl, rfl, _⟩ := lot_of hl; rfl
theorem goal_lot {κ : List KFr} {c : Code} {p : Pos} {s : Shared} {r b : Nat} {x : Obj} (hx : s.heap.get? r = some x) (hl : lotOK x = some b)
    (hg : Goal X κ c (lotN c b) p { s with heap := s.heap.update r lotF }) : Goal X κ c (lotT c r b) p s := by
  obtain ⟨d, vs, sl, rfl, hv⟩ := lot_of hl
  unfold lotT
  unfold lotN at hg
  have hb : @R.bindR = @Sem.bind := R.bindR_eq.symm
  have hr : @R.onRaiseR = @Sem.onRaise := R.onRaiseR_eq.symm
  rw [goal_eq, hr] at hg ⊢
  rw [Sem.wp_onRaise] at hg ⊢
  rw [hb, Sem.wp_bind, ← Fast.te1578499551869305889]
  unfold letOwnedTupleGo
  rw [Sem.wp_bind', show (load r : Sem Obj) = .load r none .pure from rfl, Sem.wp_load]
  refine ⟨_, hx, ?_⟩
  have hc : (["enumerate", "zip", "dict_itemiterator", "dict_reverseitemiterator", "odict_iterator", "itertools.zip_longest", "itertools.pairwise"].contains "enumerate" && vs[0]? == some (rawInt (b : Int))) = true := by
    rw [hv]; simp
  have h0 : 0 < vs.size := by
    rcases Nat.eq_zero_or_pos vs.size with h | h
    · rw [Array.getElem?_eq_none (by omega)] at hv; cases hv
    · exact h
  simp only [Sem.wp_pure]
  rw [if_pos hc, Sem.wp_bind', show rule "for.unpacks-the-owned-tuple" = (Sem.rule "for.unpacks-the-owned-tuple" .pure : Sem Unit) from rfl, Sem.wp_rule, Sem.wp_pure]
  unfold updateField
  rw [Sem.wp_bind', show (load r : Sem Obj) = .load r none .pure from rfl, Sem.wp_load]
  refine ⟨_, hx, ?_⟩
  simp only [Sem.wp_pure]
  rw [if_pos h0, show ∀ f, (update r f : Sem Unit) = .update r none f .pure from fun _ => rfl, Sem.wp_update]
  refine ⟨by rw [hx]; rfl, ?_⟩
  rw [Sem.wp_pure]
  exact hg

theorem hold_of {T : BT} : ∀ (l : List (Nat × Obj)) (ob : Ob), (hold T l ob).Holds → ob.Holds ∧ ∀ x ∈ l, T.get x.1 = some x.2
  | [], ob, h => ⟨h, fun _ q => (nomatch q)⟩
  | x :: l, ob, h => by
    unfold hold at h
    cases hT : T.get x.1 with
    | none => rw [hT] at h; exact h.elim
    | some o =>
      rw [hT] at h
      obtain ⟨e, h⟩ := h
      injection e with e _
      obtain ⟨h1, h2⟩ := hold_of l ob h
      refine ⟨h1, fun y hy => ?_⟩
      rcases List.mem_cons.mp hy with rfl | hy
      · rw [hT, e]
      · exact h2 y hy

theorem codesOb_of : ∀ (l r : List Code) (ob : Ob), (codesOb l r ob).Holds → l = r ∧ ob.Holds
  | [], [], ob, h => ⟨rfl, h⟩
  | c :: l, d :: r, ob, h => by
    obtain ⟨e, h⟩ := h
    injection e with e
    injection e with e
    obtain ⟨h1, h2⟩ := codesOb_of l r ob h
    exact ⟨by rw [e, h1], h2⟩
  | [], _ :: _, _, h => h.elim
  | _ :: _, [], _, h => h.elim
theorem codesOpt_of (l : List Code) (st : Option (List Code)) (ob : Ob) (h : (codesOpt l st ob).Holds) : (∀ r, st = some r → l = r) ∧ ob.Holds := by
  cases st with
  | none => exact ⟨fun _ h => (nomatch h), h⟩
  | some r => obtain ⟨h1, h2⟩ := codesOb_of l r ob h; exact ⟨fun _ e => by cases e; exact h1, h2⟩
theorem step_sound0 (O : X.OK) (frk : Nat → (Setting → Sem Fin) → Ty → Code → Pos → List KFr → Rest) (ih : Ty) (c : Code) (p : Pos) (κ : List KFr) (t : Sem Fin) (T : BT) (m i : Nat)
    (o : Nat) (os : List Nat) (ob : Ob)
    (hf : ∀ d k o os ob, t = .ask k → (frk d k ih c p κ T m i o os ob).ob.Holds → Step X ih c p κ (.ask k) T m i ob (frk d k ih c p κ T m i o os ob)) :
    (stepS0 X.V frk ih c p κ t T m i o os ob).ob.Holds → Step X ih c p κ t T m i ob (stepS0 X.V frk ih c p κ t T m i o os ob) := by
  cases t with
  | pure fin =>
    cases fin with
    | done f =>
      cases κ with
      | nil => exact fun h => h.elim
      | cons g κ => exact fun h => ⟨_, _, _, _, _, _, _, _, _, _, rfl, fun hb => ⟨hb, fun hg s D => goal_done (hg s D)⟩⟩
    | again c' =>
      unfold stepS0
      dsimp only
      split
      · rename_i q
        exact fun h => ⟨_, _, _, _, _, _, _, _, _, _, rfl, fun hb => ⟨hb, fun hg s D => goal_again O q (hg s D)⟩⟩
      · exact fun h => h.elim
  | raise e =>
    cases κ with
    | nil => exact fun h => h.elim
    | cons g κ => exact fun h => ⟨_, _, _, _, _, _, _, _, _, _, rfl, fun hb => ⟨hb, fun hg s D => goal_raise (hg s D)⟩⟩
  | rule tag k => exact fun h => ⟨_, _, _, _, _, _, _, _, _, _, rfl, fun hb => ⟨hb, fun hg s D => by have := hg s D; rw [goal_eq] at this ⊢; exact this⟩⟩
  | «at» p' k => exact fun h => ⟨_, _, _, _, _, _, _, _, _, _, rfl, fun hb => ⟨hb, fun hg s D => by have := hg s D; rw [goal_eq] at this ⊢; exact this⟩⟩
  | point l k => exact fun h => ⟨_, _, _, _, _, _, _, _, _, _, rfl, fun hb => ⟨hb, fun hg s D => by have := hg s D; rw [goal_eq] at this ⊢; exact this⟩⟩
  | stack k => exact fun h => ⟨_, _, _, _, _, _, _, _, _, _, rfl, fun hb => ⟨hb, fun hg s D => by have := hg s D; rw [goal_eq] at this ⊢; exact this⟩⟩
  | fresh k =>
    unfold stepS0
    dsimp only
    split
    · exact fun h => h.elim
    · rename_i d hd
      split
      · refine fun h => ⟨_, _, _, _, _, _, _, _, _, _, rfl, fun hb => ⟨hb, fun hg s D => ?_⟩⟩
        have := hg _ (rep_fresh O D hd)
        rw [goal_eq] at this ⊢
        rw [Sem.wp_fresh]; rw [← D.toks] at this; exact this
      · exact fun h => h.elim
  | handled own k =>
    cases own with
    | false => exact fun h => ⟨_, _, _, _, _, _, _, _, _, _, rfl, fun hb => ⟨hb, fun hg s D => by have := hg s D; rw [goal_eq] at this ⊢; exact this⟩⟩
    | true => exact fun h => h.elim
  | alloc x k =>
    unfold stepS0
    dsimp only
    split
    · exact fun h => h.elim
    · rename_i q
      split
      · rename_i y hy
        refine fun h => ⟨_, _, _, _, _, _, _, _, _, _, rfl, fun hb => ⟨hb, fun hg s D => ?_⟩⟩
        have := hg _ (rep_alloc O D q (by rw [hy]; rfl))
        rw [goal_eq] at this ⊢
        rw [Sem.wp_alloc, D.size]; exact this
      · exact fun h => h.elim
  | ask k =>
    unfold stepS0
    dsimp only
    refine pop_elim (P := fun R => R.ob.Holds → Step X ih c p κ (.ask k) T m i ob R) fun d o' os' ob' hob => ?_
    split
    · exact fun h => h.elim
    · split
      · exact fun h => ⟨_, _, _, _, _, _, _, _, _, _, rfl, fun hb => ⟨hob hb, fun hg s D => by have := hg s D; rw [goal_eq] at this ⊢; exact this⟩⟩
      · exact fun h => (hf _ _ _ _ _ rfl h).of hob
  | load a l k =>
    unfold stepS0
    dsimp only
    refine pop_elim (P := fun R => R.ob.Holds → Step X ih c p κ (.load a l k) T m i ob R) fun d o' os' ob' hob => ?_
    split
    · split
      · rename_i x hx
        refine fun h => ⟨_, _, _, _, _, _, _, _, _, _, rfl, fun hb => ?_⟩
        refine ⟨hob ?_, fun hg s D => goal_load (rep_look O D hx hb).2 (hg s D)⟩
        revert hb
        unfold owe
        split
        · exact id
        · split
          · exact id
          · exact fun q => q.2
      · exact fun h => h.elim
    · refine pop_elim (P := fun R => R.ob.Holds → Step X ih c p κ (.load a l k) T m i ob R) fun d o'' os'' ob'' hob' => ?_
      split
      · exact fun h => h.elim
      · split
        · exact fun h => h.elim
        · split
          · rename_i x hx
            split
            · rename_i b hl
              refine fun h => ⟨_, _, _, _, _, _, _, _, _, _, rfl, fun hb => ⟨hob (hob' hb.2.2), fun hg s D => ?_⟩⟩
              obtain ⟨ht, ha, _⟩ := hb
              rw [ht, ha]
              exact goal_lot (D.slot _ _ hx).2 hl (hg _ (rep_update O D hx (lot_live hl)))
            · exact fun h => h.elim
          · exact fun h => h.elim
  | update a l f k =>
    unfold stepS0
    dsimp only
    refine pop_elim (P := fun R => R.ob.Holds → Step X ih c p κ (.update a l f k) T m i ob R) fun d o' os' ob' hob => ?_
    split
    · exact fun h => h.elim
    · split
      · exact fun h => h.elim
      · split
        · rename_i x hx
          split
          · exact fun h => h.elim
          · rename_i q
            refine fun h => ⟨_, _, _, _, _, _, _, _, _, _, rfl, fun hb => ⟨hob hb.2, fun hg s D => ?_⟩⟩
            rw [hb.1]
            exact goal_update (D.slot _ _ hx).2 (hg _ (rep_update O D hx q))
        · exact fun h => h.elim
  | call c' hd g l k =>
    unfold stepS0
    dsimp only
    cases hd with
    | some _ => exact fun h => h.elim
    | none =>
      dsimp only
      refine pop_elim (P := fun R => R.ob.Holds → Step X ih c p κ (.call c' none g l k) T m i ob R) fun h o' os' ob' hob => ?_
      split
      · exact fun h => h.elim
      · split
        · exact fun h => ⟨_, _, _, _, _, _, _, _, _, _, rfl, fun hb => ⟨hob hb, fun hg s D => goal_call O (hg s D)⟩⟩
        · refine pop_elim (P := fun R => R.ob.Holds → Step X ih c p κ (.call c' none g l k) T m i ob R) fun d o'' os'' ob'' hob' => ?_
          split
          · split
            · rename_i v T' ha
              refine fun h => ⟨_, _, _, _, _, _, _, _, _, _, rfl, fun hb => ?_⟩
              obtain ⟨hb0, hb⟩ := hb
              obtain ⟨h1, h2⟩ := goal_ans (κ := κ) (c := c) (p := p) (m := m) (i := i) O hb0 ha (hb : (oweCall X.V c' d ob'').Holds)
              exact ⟨hob (hob' h1), fun hg s D => goal_spec (h2 s D _ fun s' D' => hg s' D')⟩
            · exact fun h => h.elim
          · split
            · split
              · rename_i T' ha
                refine fun h => ⟨_, _, _, _, _, _, _, _, _, _, rfl, fun hb => ?_⟩
                obtain ⟨h1, h2⟩ := goal_ansB (p := p) (m := m) (i := i) O ha hb
                exact ⟨hob (hob' h1), fun hg s D => goal_spec (h2 s D _ fun s' D' => hg s' D')⟩
              · exact fun h => h.elim
            · split
              · exact fun h => h.elim
              · rename_i st c₀ i₀ m₀ j pre v up new hsp
                split
                · rename_i hi
                  obtain ⟨hi, hmm⟩ := Bool.and_eq_true_iff.mp hi
                  have hi' := Nat.eq_of_beq_eq_true hi
                  have hm' := Nat.eq_of_beq_eq_true hmm
                  subst hi' hm'
                  refine fun h => ⟨_, _, _, _, _, _, _, _, _, _, rfl, fun hb => ?_⟩
                  obtain ⟨hb1, hpre⟩ := hold_of _ _ hb
                  obtain ⟨hc, hb1⟩ := hb1
                  obtain ⟨hst, hb2⟩ := codesOpt_of _ _ _ hb1
                  have hc : c' = c₀ := by injection hc with hc; injection hc
                  subst hc
                  refine ⟨hob (hob' (insAll_get _ _ _ _ hb2).1), fun hg s D => goal_spec (O.sp _ _ hsp κ c p p s _ hst D.gens D.keep D.size D.toks (fun x hx => ?_) fun s' W => hg s' (rep_went O D W hb2).2)⟩
                  exact (D.slot _ _ (hpre x hx)).2
                · exact fun h => h.elim
            · refine pop_elim (P := fun R => R.ob.Holds → Step X ih c p κ (.call c' none g l k) T m i ob R) fun e o₃ os₃ ob₃ hob₃ => ?_
              refine pop_elim (P := fun R => R.ob.Holds → Step X ih c p κ (.call c' none g l k) T m i ob R) fun e₁ o₄ os₄ ob₄ hob₄ => ?_
              refine pop_elim (P := fun R => R.ob.Holds → Step X ih c p κ (.call c' none g l k) T m i ob R) fun e₂ o₅ os₅ ob₅ hob₅ => ?_
              split
              · rename_i b ob₆ ha
                refine fun h => ⟨_, _, _, _, _, _, _, _, _, _, rfl, fun hb => ?_⟩
                obtain ⟨h1, h2⟩ := goal_ansE (c := c) (p := p) (m := m) (i := i) O rfl ha hb
                exact ⟨hob (hob' (hob₃ (hob₄ (hob₅ h1)))), fun hg s D => goal_spec (h2 s D _ (hg s D))⟩
              · exact fun h => h.elim
  | unsupported | finish | register | loadIfAlive | choose | os | newGen | genState | resume | yield | fork | thread | await => exact fun h => h.elim

theorem step_sound (O : X.OK) (frk : Nat → (Setting → Sem Fin) → Ty → Code → Pos → List KFr → Rest) (ih : Ty) (c : Code) (p : Pos) (κ : List KFr) (t : Sem Fin) (T : BT) (m i : Nat)
    (o : Nat) (os : List Nat) (ob : Ob)
    (hf : ∀ d k o os ob, t = .ask k → (frk d k ih c p κ T m i o os ob).ob.Holds → Step X ih c p κ (.ask k) T m i ob (frk d k ih c p κ T m i o os ob)) :
    (stepS X.V frk ih c p κ t T m i o os ob).ob.Holds → Step X ih c p κ t T m i ob (stepS X.V frk ih c p κ t T m i o os ob) := by
  rw [stepS_eq]
  exact step_sound0 O frk ih c p κ t T m i o os ob hf

noncomputable def Sound (X : Env0) (F : Ty → Ty) : Prop := ∀ K c p κ t T m i o os ob, (F K c p κ t T m i o os ob).ob.Holds → Step X K c p κ t T m i ob (F K c p κ t T m i o os ob)

theorem Step.trans {K ih : Ty} {c : Code} {p : Pos} {κ : List KFr} {t : Sem Fin} {T : BT} {m i : Nat} {ob : Ob} {R : St} (h : Step X ih c p κ t T m i ob R) (hR : R.ob.Holds)
    (hs : ∀ c' p' κ' t' T' m' i' o' os' ob', (ih c' p' κ' t' T' m' i' o' os' ob').ob.Holds → Step X K c' p' κ' t' T' m' i' ob' (ih c' p' κ' t' T' m' i' o' os' ob')) : Step X K c p κ t T m i ob R := by
  obtain ⟨c', p', κ', t', T', m', i', o', os', ob', rfl, h⟩ := h
  obtain ⟨c₂, p₂, κ₂, t₂, T₂, m₂, i₂, o₂, os₂, ob₂, e, h'⟩ := hs _ _ _ _ _ _ _ _ _ _ hR
  exact ⟨c₂, p₂, κ₂, t₂, T₂, m₂, i₂, o₂, os₂, ob₂, e, fun q => ⟨(h (h' q).1).1, fun g => (h (h' q).1).2 ((h' q).2 g)⟩⟩

theorem run0_sound (O : X.OK) : ∀ n, Sound X (run0 X.V n)
  | 0 => fun K c p κ t T m i o os ob _ => ⟨_, _, _, _, _, _, _, _, _, _, rfl, fun q => ⟨q, id⟩⟩
  | n + 1 => fun K c p κ t T m i o os ob h =>
    (step_sound O noFork _ c p κ t T m i o os ob (fun _ _ _ _ _ _ h => False.elim h) h).trans h fun _ _ _ _ _ _ _ _ _ _ h' => run0_sound O n _ _ _ _ _ _ _ _ _ _ _ h'

theorem withFollow_row (w : World) (d : Nat) : w.withFollow (rowOf d) (w.params.followText (rowOf d)) = w := World.withFollow_self w _

theorem fork_sound (O : X.OK) {sub : Nat → Ty → Ty} (hsub : ∀ n, Sound X (sub n)) (ih : Ty) (c : Code) (p : Pos) (κ : List KFr) (T : BT) (m i : Nat) (d : Nat) (k : Setting → Sem Fin) (o : Nat) (os : List Nat) (ob : Ob)
    (h : (fork X.V sub d k ih c p κ T m i o os ob).ob.Holds) : Step X ih c p κ (.ask k) T m i ob (fork X.V sub d k ih c p κ T m i o os ob) := by
  revert h
  unfold fork
  refine pop_elim (P := fun R => R.ob.Holds → Step X ih c p κ (.ask k) T m i ob R) fun q₁ o' os' ob' hob => ?_
  refine pop_elim (P := fun R => R.ob.Holds → Step X ih c p κ (.ask k) T m i ob R) fun q₂ o'' os'' ob'' hob' => ?_
  intro h
  obtain ⟨c₂, p₂, κ₂, t₂, T₂, m₂, i₂, o₂, os₂, ob₂, e₂, h₂⟩ := hsub _ _ _ _ _ _ _ _ _ _ _ _ h
  rw [e₂] at h
  obtain ⟨c₁, p₁, κ₁, t₁, T₁, m₁, i₁, o₁, os₁, ob₁, e₁, h₁⟩ := hsub _ _ _ _ _ _ _ _ _ _ _ _ h
  refine ⟨c₁, p₁, κ₁, t₁, T₁, m₁, i₁, o₁, os₁, _, e₂.trans e₁, fun hb => ?_⟩
  obtain ⟨he, hb₂, hb₁⟩ := hb
  cases he
  have w₁ := h₁ hb₁
  have w₂ := h₂ hb₂
  refine ⟨hob (hob' w₁.1), fun hg s D => ?_⟩
  have g₁ := w₁.2 hg s D
  have g₂ := w₂.2 hg s D
  have e := withFollow_row X.V.w d
  rw [goal_eq] at g₁ g₂ ⊢
  rw [Sem.wp_ask]
  cases hf : X.V.w.params.followText (rowOf d) with
  | true => rw [hf] at e; rw [e] at g₁; exact g₁
  | false => rw [hf] at e; rw [e] at g₂; exact g₂

theorem run1_sound (O : X.OK) : ∀ n, Sound X (run1 X.V n)
  | 0 => fun K c p κ t T m i o os ob _ => ⟨_, _, _, _, _, _, _, _, _, _, rfl, fun q => ⟨q, id⟩⟩
  | n + 1 => fun K c p κ t T m i o os ob h =>
    (step_sound O _ _ c p κ t T m i o os ob (fun d k o os ob _ h => fork_sound O (run0_sound O) _ c p κ T m i d k o os ob h) h).trans h fun _ _ _ _ _ _ _ _ _ _ h' => run1_sound O n _ _ _ _ _ _ _ _ _ _ _ h'
theorem run2_sound (O : X.OK) : ∀ n, Sound X (run2 X.V n)
  | 0 => fun K c p κ t T m i o os ob _ => ⟨_, _, _, _, _, _, _, _, _, _, rfl, fun q => ⟨q, id⟩⟩
  | n + 1 => fun K c p κ t T m i o os ob h =>
    (step_sound O _ _ c p κ t T m i o os ob (fun d k o os ob _ h => fork_sound O (run1_sound O) _ c p κ T m i d k o os ob h) h).trans h fun _ _ _ _ _ _ _ _ _ _ h' => run2_sound O n _ _ _ _ _ _ _ _ _ _ _ h'

theorem run_sound (O : X.OK) {n : Nat} {c : Code} {p : Pos} {κ : List KFr} {t : Sem Fin} {T : BT} {m i o : Nat} {os : List Nat} {exp : List (Nat × Obj)} {f : Flow} {mE iE : Nat}
    (h : (runE X.V n exp f mE iE c p κ t T m i o os .nil).ob.left = (runE X.V n exp f mE iE c p κ t T m i o os .nil).ob.right)
    (hR : ∀ s' T', Rep X T' mE iE s' → (∀ x ∈ exp, T'.get x.1 = some x.2) → X.R (.ok f) s') : G X c p κ t T m i := by
  have ho := Ob.holds_of _ h
  unfold runE at h ho
  obtain ⟨c₁, p₁, κ₁, t₁, T₁, m₁, i₁, o₁, os₁, ob₁, e, h₁⟩ := run2_sound O n _ _ _ _ _ _ _ _ _ _ _ ho
  rw [e] at ho
  unfold finE at ho
  cases κ₁ with
  | cons _ _ => exact ho.elim
  | nil => cases t₁ with
    | pure fin => cases fin with
      | done g =>
        obtain ⟨e1, rfl, rfl, h2⟩ := ho
        injection e1 with e1
        injection e1 with e1
        subst e1
        obtain ⟨h3, h4⟩ := hold_of _ _ h2
        refine (h₁ h3).2 fun s D => ?_
        rw [goal_eq, Sem.wp_pure]
        exact hR s T₁ D h4
      | again _ => exact ho.elim
    | _ => exact ho.elim
end Mine
end
section
set_option maxRecDepth 100000
set_option linter.unusedVariables false
open PySem PySem.W PySem.Calls PyProof.Rows
namespace Mine
noncomputable section
noncomputable def en (P : Params) (x : String) (t : Nat) (v : Value) : DictEntry := ⟨PyData.keyHash P (Str.ofString x), .str (Str.ofString x) t, v⟩
noncomputable def sv (x : String) (t : Nat) : Value := .str (Str.ofString x) t
noncomputable def iv (n t : Nat) : Value := .int (Int.ofNat n) t
noncomputable abbrev cdO (vs : Array Value) : Obj := ⟨(.type "code"), none, (.fields vs), #[]⟩
noncomputable abbrev fnO (f : FuncData) : Obj := ⟨(.type "function"), none, (.func f), #[]⟩
noncomputable abbrev tpO (vs : Array Value) (k : Nat) : Obj := ⟨(.type "tuple"), none, (.seq vs k), #[]⟩
noncomputable abbrev dcO (es : Array DictEntry) (k : Nat) : Obj := ⟨(.type "dict"), none, (.dict es k), #[]⟩
noncomputable def nthS : Nat → List Stmt → Stmt
  | _, [] => .Pass default
  | 0, s :: _ => s
  | i + 1, _ :: l => nthS i l
noncomputable def nthE : Nat → List Expr → Expr
  | _, [] => .Tuple [] 0 default
  | 0, s :: _ => s
  | i + 1, _ :: l => nthE i l
noncomputable def stm (i : Nat) : Stmt := nthS i PySem.Challenge.pw_pf0282_01.main.body
noncomputable def fdArgs : Stmt → Arguments
  | .FunctionDef _ a _ _ _ _ _ _ _ _ => a
  | _ => ⟨[], [], none, [], [], none, []⟩
noncomputable def fdBody : Stmt → List Stmt
  | .FunctionDef _ _ b _ _ _ _ _ _ _ => b
  | _ => []
noncomputable def fdScope : Stmt → Scope
  | .FunctionDef _ _ _ _ _ _ s _ _ _ => s
  | _ => default
noncomputable def cdBody : Stmt → List Stmt
  | .ClassDef _ _ _ b _ _ _ _ _ _ _ => b
  | _ => []
noncomputable def asgV : Stmt → Expr
  | .Assign _ v _ => v
  | _ => .Tuple [] 0 default
noncomputable def tupN (e : Expr) (i : Nat) : Expr := match e with
  | .Tuple es _ _ => nthE i es
  | _ => e
noncomputable def lamA : Expr → Arguments
  | .Lambda a _ _ _ => a
  | _ => ⟨[], [], none, [], [], none, []⟩
noncomputable def lamB : Expr → Expr
  | .Lambda _ b _ _ => b
  | e => e
noncomputable def lamS : Expr → Scope
  | .Lambda _ _ s _ => s
  | _ => default
noncomputable abbrev cdW (x y : String) (k l a b c f r e : Nat) : Obj := (cdO #[(sv x k), (sv y (Nat.add k 1)), (sv "/claim/cut.py" (Nat.add k 2)), (iv l 0), (iv a 0), (iv b 0), (iv c 0), (iv f 0), (.ref r), (.bool true), (iv 181 0), (.ref (Nat.add r 1)), .none, (.ref (Nat.add r 2)), (.ref (Nat.add r 3)), (.ref (Nat.add r 4)), (iv e 0), (iv l 0), (sv "/claim/cut.py" (Nat.add e 1))])
noncomputable abbrev fnW (x y : String) (s : Stmt) (m : Value) (r : Nat) : Obj := (fnO ⟨(Str.ofString x), (Str.ofString y), fdArgs s, (.stmts (fdBody s)), fdScope s, 3, [], .none, .none, .none, m, none, (.ref r), .none, 0⟩)
noncomputable def o_0 (P : Params) : Obj := (dcO #[(en P "__name__" 1 (sv "builtins" 160)), (en P "__doc__" 2 (.builtin "builtins.__doc__:str#opaque")), (en P "__package__" 3 (.builtin "builtins.__package__:str#opaque")), (en P "__loader__" 4 (.builtin "builtins.__loader__:shared#opaque")), (en P "__spec__" 5 (.builtin "builtins.__spec__#opaque")), (en P "__build_class__" 6 (.builtin "__build_class__")), (en P "__import__" 7 (.builtin "__import__")), (en P "abs" 8 (.builtin "abs")), (en P "all" 9 (.builtin "all")), (en P "any" 10 (.builtin "any")), (en P "ascii" 11 (.builtin "ascii")), (en P "bin" 12 (.builtin "bin")), (en P "breakpoint" 13 (.builtin "breakpoint")), (en P "callable" 14 (.builtin "callable")), (en P "chr" 15 (.builtin "chr")), (en P "compile" 16 (.builtin "compile")), (en P "delattr" 17 (.builtin "delattr")), (en P "dir" 18 (.builtin "dir")), (en P "divmod" 19 (.builtin "divmod")), (en P "eval" 20 (.builtin "eval")), (en P "exec" 21 (.builtin "exec")), (en P "format" 22 (.builtin "format")), (en P "getattr" 23 (.builtin "getattr")), (en P "globals" 24 (.builtin "globals")), (en P "hasattr" 25 (.builtin "hasattr")), (en P "hash" 26 (.builtin "hash")), (en P "hex" 27 (.builtin "hex")), (en P "id" 28 (.builtin "id")), (en P "input" 29 (.builtin "input")), (en P "isinstance" 30 (.builtin "isinstance")), (en P "issubclass" 31 (.builtin "issubclass")), (en P "iter" 32 (.builtin "iter")), (en P "aiter" 33 (.builtin "aiter")), (en P "len" 34 (.builtin "len")), (en P "locals" 35 (.builtin "locals")), (en P "max" 36 (.builtin "max")), (en P "min" 37 (.builtin "min")), (en P "next" 38 (.builtin "next")), (en P "anext" 39 (.builtin "anext")), (en P "oct" 40 (.builtin "oct")), (en P "ord" 41 (.builtin "ord")), (en P "pow" 42 (.builtin "pow")), (en P "print" 43 (.builtin "print")), (en P "repr" 44 (.builtin "repr")), (en P "round" 45 (.builtin "round")), (en P "setattr" 46 (.builtin "setattr")), (en P "sorted" 47 (.builtin "sorted")), (en P "sum" 48 (.builtin "sum")), (en P "vars" 49 (.builtin "vars")), (en P "None" 50 .none), (en P "Ellipsis" 51 .ellipsis), (en P "NotImplemented" 52 .notImplemented), (en P "False" 53 (.bool false)), (en P "True" 54 (.bool true)), (en P "bool" 55 (.type "bool")), (en P "memoryview" 56 (.type "memoryview")), (en P "bytearray" 57 (.type "bytearray")), (en P "bytes" 58 (.type "bytes")), (en P "classmethod" 59 (.type "classmethod")), (en P "complex" 60 (.type "complex")), (en P "dict" 61 (.type "dict")), (en P "enumerate" 62 (.type "enumerate")), (en P "filter" 63 (.type "filter")), (en P "float" 64 (.type "float")), (en P "frozenset" 65 (.type "frozenset")), (en P "property" 66 (.type "property")), (en P "int" 67 (.type "int")), (en P "list" 68 (.type "list")), (en P "map" 69 (.type "map")), (en P "object" 70 (.type "object")), (en P "range" 71 (.type "range")), (en P "reversed" 72 (.type "reversed")), (en P "set" 73 (.type "set")), (en P "slice" 74 (.type "slice")), (en P "staticmethod" 75 (.type "staticmethod")), (en P "str" 76 (.type "str")), (en P "super" 77 (.type "super")), (en P "tuple" 78 (.type "tuple")), (en P "type" 79 (.type "type")), (en P "zip" 80 (.type "zip")), (en P "__debug__" 81 (.bool true)), (en P "BaseException" 82 (.type "BaseException")), (en P "BaseExceptionGroup" 83 (.type "BaseExceptionGroup")), (en P "Exception" 84 (.type "Exception")), (en P "GeneratorExit" 85 (.type "GeneratorExit")), (en P "KeyboardInterrupt" 86 (.type "KeyboardInterrupt")), (en P "SystemExit" 87 (.type "SystemExit")), (en P "ArithmeticError" 88 (.type "ArithmeticError")), (en P "AssertionError" 89 (.type "AssertionError")), (en P "AttributeError" 90 (.type "AttributeError")), (en P "BufferError" 91 (.type "BufferError")), (en P "EOFError" 92 (.type "EOFError")), (en P "ImportError" 93 (.type "ImportError")), (en P "LookupError" 94 (.type "LookupError")), (en P "MemoryError" 95 (.type "MemoryError")), (en P "NameError" 96 (.type "NameError")), (en P "OSError" 97 (.type "OSError")), (en P "ReferenceError" 98 (.type "ReferenceError")), (en P "RuntimeError" 99 (.type "RuntimeError")), (en P "StopAsyncIteration" 100 (.type "StopAsyncIteration")), (en P "StopIteration" 101 (.type "StopIteration")), (en P "SyntaxError" 102 (.type "SyntaxError")), (en P "SystemError" 103 (.type "SystemError")), (en P "TypeError" 104 (.type "TypeError")), (en P "ValueError" 105 (.type "ValueError")), (en P "Warning" 106 (.type "Warning")), (en P "FloatingPointError" 107 (.type "FloatingPointError")), (en P "OverflowError" 108 (.type "OverflowError")), (en P "ZeroDivisionError" 109 (.type "ZeroDivisionError")), (en P "BytesWarning" 110 (.type "BytesWarning")), (en P "DeprecationWarning" 111 (.type "DeprecationWarning")), (en P "EncodingWarning" 112 (.type "EncodingWarning")), (en P "FutureWarning" 113 (.type "FutureWarning")), (en P "ImportWarning" 114 (.type "ImportWarning")), (en P "PendingDeprecationWarning" 115 (.type "PendingDeprecationWarning")), (en P "ResourceWarning" 116 (.type "ResourceWarning")), (en P "RuntimeWarning" 117 (.type "RuntimeWarning")), (en P "SyntaxWarning" 118 (.type "SyntaxWarning")), (en P "UnicodeWarning" 119 (.type "UnicodeWarning")), (en P "UserWarning" 120 (.type "UserWarning")), (en P "BlockingIOError" 121 (.type "BlockingIOError")), (en P "ChildProcessError" 122 (.type "ChildProcessError")), (en P "ConnectionError" 123 (.type "ConnectionError")), (en P "FileExistsError" 124 (.type "FileExistsError")), (en P "FileNotFoundError" 125 (.type "FileNotFoundError")), (en P "InterruptedError" 126 (.type "InterruptedError")), (en P "IsADirectoryError" 127 (.type "IsADirectoryError")), (en P "NotADirectoryError" 128 (.type "NotADirectoryError")), (en P "PermissionError" 129 (.type "PermissionError")), (en P "ProcessLookupError" 130 (.type "ProcessLookupError")), (en P "TimeoutError" 131 (.type "TimeoutError")), (en P "IndentationError" 132 (.type "IndentationError")), (en P "_IncompleteInputError" 133 (.type "_IncompleteInputError")), (en P "IndexError" 134 (.type "IndexError")), (en P "KeyError" 135 (.type "KeyError")), (en P "ModuleNotFoundError" 136 (.type "ModuleNotFoundError")), (en P "NotImplementedError" 137 (.type "NotImplementedError")), (en P "PythonFinalizationError" 138 (.type "PythonFinalizationError")), (en P "RecursionError" 139 (.type "RecursionError")), (en P "UnboundLocalError" 140 (.type "UnboundLocalError")), (en P "UnicodeError" 141 (.type "UnicodeError")), (en P "BrokenPipeError" 142 (.type "BrokenPipeError")), (en P "ConnectionAbortedError" 143 (.type "ConnectionAbortedError")), (en P "ConnectionRefusedError" 144 (.type "ConnectionRefusedError")), (en P "ConnectionResetError" 145 (.type "ConnectionResetError")), (en P "TabError" 146 (.type "TabError")), (en P "UnicodeDecodeError" 147 (.type "UnicodeDecodeError")), (en P "UnicodeEncodeError" 148 (.type "UnicodeEncodeError")), (en P "UnicodeTranslateError" 149 (.type "UnicodeTranslateError")), (en P "ExceptionGroup" 150 (.type "ExceptionGroup")), (en P "EnvironmentError" 151 (.type "OSError")), (en P "IOError" 152 (.type "OSError")), (en P "open" 153 (.builtin "open")), (en P "quit" 154 (.builtin "builtins.quit#opaque")), (en P "exit" 155 (.builtin "builtins.exit#opaque")), (en P "copyright" 156 (.builtin "builtins.copyright#opaque")), (en P "credits" 157 (.builtin "builtins.credits#opaque")), (en P "license" 158 (.builtin "builtins.license#opaque")), (en P "help" 159 (.builtin "builtins.help#opaque"))] 159)
noncomputable def o_2 (P : Params) : Obj := ⟨.none, none, (.dict #[(en P "type.__subclasses__.Exception.0" 366 (iv 131 0)), (en P "type.__subclasses__.Exception.n" 367 (iv 2 0)), (en P "type.__subclasses__.Exception.1" 395 (iv 151 0))] 3), #[]⟩
noncomputable def o_3 (P : Params) : Obj := (dcO #[(en P "__name__" 165 (sv "law_pf0282_01" 1815)), (en P "__doc__" 166 .none), (en P "__package__" 167 .none), (en P "__loader__" 168 (.builtin "__main__.__loader__#opaque")), (en P "__spec__" 169 .none), (en P "__annotations__" 170 (.ref 6)), (en P "__builtins__" 171 (.ref 4)), (en P "__file__" 173 (sv "/claim/cut.py" 172)), (en P "__cached__" 174 .none), (en P "_wall" 193 (.ref 21)), (en P "SPACE_ORDER" 199 (.ref 22)), (en P "probe_period" 208 (.ref 29)), (en P "earliest_of" 218 (.ref 36)), (en P "probe_times" 233 (.ref 43)), (en P "is_anything_asked" 239 (.ref 48)), (en P "probe_due" 253 (.ref 55)), (en P "next_timer" 263 (.ref 62)), (en P "last_asked" 275 (.ref 69)), (en P "is_validated" 282 (.ref 76)), (en P "is_same_probe" 290 (.ref 83)), (en P "set_timer" 296 (.ref 88)), (en P "SPACE_NAMES" 300 (.ref 89)), (en P "NOT_ELICITING" 306 (.ref 90)), (en P "is_eliciting" 313 (.ref 97)), (en P "counts_in_flight" 320 (.ref 104)), (en P "any_eliciting" 326 (.ref 109)), (en P "any_in_flight" 332 (.ref 114)), (en P "INTERNAL_ERROR" 336 (iv 1 335)), (en P "QuicError" 369 (.ref 131)), (en P "PacketRefused" 398 (.ref 151)), (en P "PING" 400 (iv 1 399)), (en P "ACK" 402 (iv 2 401)), (en P "ACK_ECN" 404 (iv 3 403)), (en P "RESET_STREAM" 406 (iv 4 405)), (en P "STOP_SENDING" 408 (iv 5 407)), (en P "CRYPTO" 410 (iv 6 409)), (en P "NEW_TOKEN" 412 (iv 7 411)), (en P "STREAM" 414 (iv 8 413)), (en P "MAX_DATA" 416 (iv 16 415)), (en P "MAX_STREAM_DATA" 418 (iv 17 417)), (en P "MAX_STREAMS_BIDI" 420 (iv 18 419)), (en P "MAX_STREAMS_UNI" 422 (iv 19 421)), (en P "DATA_BLOCKED" 424 (iv 20 423)), (en P "STREAM_DATA_BLOCKED" 426 (iv 21 425)), (en P "STREAMS_BLOCKED_BIDI" 428 (iv 22 427)), (en P "STREAMS_BLOCKED_UNI" 430 (iv 23 429)), (en P "NEW_CONNECTION_ID" 432 (iv 24 431)), (en P "RETIRE_CONNECTION_ID" 434 (iv 25 433)), (en P "PATH_CHALLENGE" 436 (iv 26 435)), (en P "PATH_RESPONSE" 438 (iv 27 437)), (en P "CLOSE" 440 (iv 28 439)), (en P "CLOSE_APPLICATION" 442 (iv 29 441)), (en P "HANDSHAKE_DONE" 444 (iv 30 443)), (en P "BIT_FIN" 446 (iv 1 445)), (en P "BIT_LENGTH" 448 (iv 2 447)), (en P "BIT_OFFSET" 450 (iv 4 449)), (en P "VARINT_SIZES" 457 (.ref 155)), (en P "put_whole" 467 (.ref 162)), (en P "varint_size" 475 (.ref 169)), (en P "put_varint" 484 (.ref 176)), (en P "NUMBER_FRAMES" 505 (.ref 177)), (en P "put_numbers" 511 (.ref 182)), (en P "put_counted" 518 (.ref 189)), (en P "ack_numbers" 531 (.ref 196)), (en P "put_ack" 545 (.ref 203)), (en P "put_stream" 560 (.ref 210)), (en P "put_new_cid" 572 (.ref 217)), (en P "put_close" 583 (.ref 224)), (en P "put_octets_frame" 591 (.ref 231)), (en P "put_frame" 600 (.ref 238)), (en P "put_frames" 606 (.ref 243)), (en P "LONG_KINDS" 613 (.ref 244)), (en P "put_ids" 621 (.ref 251)), (en P "long_first" 629 (.ref 258)), (en P "long_head" 643 (.ref 265)), (en P "MOST_OCTETS" 647 (iv 4 646)), (en P "number_size" 657 (.ref 272)), (en P "cut_number" 666 (.ref 279)), (en P "TAG_SIZE" 670 (iv 16 669)), (en P "SAMPLE_SIZE" 672 (iv 16 671)), (en P "MASK_SIZE" 674 (iv 5 673)), (en P "MODULUS" 680 (iv 170141183460469231731687303715884105727 679)), (en P "FACTOR" 682 (iv 6364136223846793005 681)), (en P "mixed_octets" 692 (.ref 286)), (en P "turned_octets" 704 (.ref 293)), (en P "tag_of" 715 (.ref 300)), (en P "seal_payload" 726 (.ref 307)), (en P "head_mask" 734 (.ref 314)), (en P "turned_first" 742 (.ref 321)), (en P "turned_number" 748 (.ref 326)), (en P "sample_at" 757 (.ref 333)), (en P "padded_payload" 766 (.ref 340)), (en P "protected_packet" 781 (.ref 347)), (en P "short_head" 793 (.ref 354)), (en P "head_of" 805 (.ref 361)), (en P "number_in" 812 (.ref 368)), (en P "put_packet" 824 (.ref 375)), (en P "packet_size" 834 (.ref 382)), (en P "PATH_KINDS" 839 (.ref 383)), (en P "packet_with" 851 (.ref 390)), (en P "rows_size" 865 (.ref 397)), (en P "must_fill" 871 (.ref 402)), (en P "padded_rows" 881 (.ref 409)), (en P "full_rows" 895 (.ref 416)), (en P "MOST_BARE" 899 (iv 8 898)), (en P "ids_of" 906 (.ref 423)), (en P "places_of" 912 (.ref 428)), (en P "sealed" 927 (.ref 435)), (en P "with_padding" 933 (.ref 440)), (en P "trials_aside" 946 (.ref 447)), (en P "other_answers" 952 (.ref 452)), (en P "is_silent" 961 (.ref 459)), (en P "add_span" 976 (.ref 466)), (en P "CryptoOut" 1049 (.ref 518)), (en P "INITIAL_PACKETS" 1053 (iv 10 1052)), (en P "INITIAL_OCTETS" 1055 (iv 14720 1054)), (en P "LEAST_PACKETS" 1057 (iv 2 1056)), (en P "initial_window" 1064 (.ref 529)), (en P "NewReno" 1183 (.ref 616)), (en P "TIMES_RECEIVED" 1187 (iv 3 1186)), (en P "PATH_UNPROVEN" 1189 (sv "unproven" 1188)), (en P "PATH_TRYING" 1191 (sv "trying" 1190)), (en P "PATH_PROVEN" 1193 (sv "proven" 1192)), (en P "PATH_FAILED" 1195 (sv "failed" 1194)), (en P "Path" 1302 (.ref 700)), (en P "Paths" 1455 (.ref 819)), (en P "INITIAL_RTT" 1459 (iv 333000 1458)), (en P "GRANULARITY" 1461 (iv 1000 1460)), (en P "without_delay" 1470 (.ref 830)), (en P "Rtt" 1545 (.ref 883)), (en P "add_number" 1555 (.ref 894)), (en P "add_range" 1567 (.ref 901)), (en P "prune" 1573 (.ref 906)), (en P "KEPT_RANGES" 1577 (iv 64 1576)), (en P "ACK_EACH" 1579 (iv 2 1578)), (en P "ECN_PLACES" 1583 (.ref 907)), (en P "SentPacket" 1620 (.ref 924)), (en P "Space" 1807 (.ref 1065)), (en P "kept_ranges" 1814 (.ref 1076)), (en P "_law_take" 1824 (.ref 1083)), (en P "_law_state" 1830 (.ref 1088)), (en P "law" 1836 (.ref 1093))] 142)
noncomputable def o_4 (P : Params) : Obj := ⟨(.type "module"), (some 0), .plain, #[]⟩
noncomputable def o_22 (P : Params) : Obj := (tpO #[(sv "initial" 196), (sv "handshake" 197), (sv "application" 198)] 0)
noncomputable def o_28 (P : Params) : Obj := (cdW "probe_period" "probe_period" 200 6 3 0 0 3 23 206)
noncomputable def o_29 (P : Params) : Obj := (fnW "probe_period" "probe_period" (stm 3) (sv "quic.pto" 194) 28)
noncomputable def o_35 (P : Params) : Obj := (cdW "earliest_of" "earliest_of" 209 8 1 0 0 3 30 216)
noncomputable def o_36 (P : Params) : Obj := (fnW "earliest_of" "earliest_of" (stm 4) (sv "quic.pto" 194) 35)
noncomputable def o_42 (P : Params) : Obj := (cdW "probe_times" "probe_times" 219 15 5 0 0 3 37 231)
noncomputable def o_43 (P : Params) : Obj := (fnW "probe_times" "probe_times" (stm 5) (sv "quic.pto" 194) 42)
noncomputable def o_47 (P : Params) : Obj := (cdO #[(sv "is_anything_asked" 234), (sv "is_anything_asked" 235), (sv "/claim/cut.py" 236), (iv 24 0), (iv 1 0), (iv 0 0), (iv 0 0), (iv 3 0), (.ref 44), (.bool true), (iv 181 0), (.ref 45), .none, .none, .none, (.ref 46), (iv 237 0), (iv 24 0), (sv "/claim/cut.py" 238)])
noncomputable def o_48 (P : Params) : Obj := (fnW "is_anything_asked" "is_anything_asked" (stm 6) (sv "quic.pto" 194) 47)
noncomputable def o_54 (P : Params) : Obj := (cdW "probe_due" "probe_due" 240 26 8 0 0 3 49 251)
noncomputable def o_55 (P : Params) : Obj := (fnW "probe_due" "probe_due" (stm 7) (sv "quic.pto" 194) 54)
noncomputable def o_61 (P : Params) : Obj := (cdW "next_timer" "next_timer" 254 32 3 0 0 3 56 261)
noncomputable def o_62 (P : Params) : Obj := (fnW "next_timer" "next_timer" (stm 8) (sv "quic.pto" 194) 61)
noncomputable def o_68 (P : Params) : Obj := (cdW "last_asked" "last_asked" 266 40 1 0 0 3 63 273)
noncomputable def o_69 (P : Params) : Obj := (fnW "last_asked" "last_asked" (stm 10) (sv "quic.connloss" 264) 68)
noncomputable def o_75 (P : Params) : Obj := (cdW "is_validated" "is_validated" 276 46 1 0 0 3 70 280)
noncomputable def o_76 (P : Params) : Obj := (fnW "is_validated" "is_validated" (stm 11) (sv "quic.connloss" 264) 75)
noncomputable def o_87 (P : Params) : Obj := (cdO #[(sv "set_timer" 291), (sv "set_timer" 292), (sv "/claim/cut.py" 293), (iv 52 0), (iv 2 0), (iv 0 0), (iv 0 0), (iv 3 0), (.ref 84), (.bool true), (iv 181 0), (.ref 85), .none, .none, .none, (.ref 86), (iv 294 0), (iv 52 0), (sv "/claim/cut.py" 295)])
noncomputable def o_88 (P : Params) : Obj := (fnW "set_timer" "set_timer" (stm 13) (sv "quic.connloss" 264) 87)
noncomputable def o_89 (P : Params) : Obj := (tpO #[(sv "initial" 297), (sv "handshake" 298), (sv "application" 299)] 0)
noncomputable def o_90 (P : Params) : Obj := (tpO #[(sv "ack" 303), (sv "padding" 304), (sv "close" 305)] 0)
noncomputable def o_96 (P : Params) : Obj := (cdW "is_eliciting" "is_eliciting" 307 62 1 0 0 3 91 311)
noncomputable def o_97 (P : Params) : Obj := (fnW "is_eliciting" "is_eliciting" (stm 17) (sv "quic.framerules" 301) 96)
noncomputable def o_103 (P : Params) : Obj := (cdW "counts_in_flight" "counts_in_flight" 314 64 1 0 0 3 98 318)
noncomputable def o_104 (P : Params) : Obj := (fnW "counts_in_flight" "counts_in_flight" (stm 18) (sv "quic.framerules" 301) 103)
noncomputable def o_108 (P : Params) : Obj := (cdO #[(sv "any_eliciting" 321), (sv "any_eliciting" 322), (sv "/claim/cut.py" 323), (iv 66 0), (iv 1 0), (iv 0 0), (iv 0 0), (iv 3 0), (.ref 105), (.bool true), (iv 181 0), (.ref 106), .none, .none, .none, (.ref 107), (iv 324 0), (iv 66 0), (sv "/claim/cut.py" 325)])
noncomputable def o_109 (P : Params) : Obj := (fnW "any_eliciting" "any_eliciting" (stm 19) (sv "quic.framerules" 301) 108)
noncomputable def o_113 (P : Params) : Obj := (cdO #[(sv "any_in_flight" 327), (sv "any_in_flight" 328), (sv "/claim/cut.py" 329), (iv 68 0), (iv 1 0), (iv 0 0), (iv 0 0), (iv 3 0), (.ref 110), (.bool true), (iv 181 0), (.ref 111), .none, .none, .none, (.ref 112), (iv 330 0), (iv 68 0), (sv "/claim/cut.py" 331)])
noncomputable def o_114 (P : Params) : Obj := (fnW "any_in_flight" "any_in_flight" (stm 20) (sv "quic.framerules" 301) 113)
noncomputable def o_155 (P : Params) : Obj := (tpO #[(iv 1 453), (iv 2 454), (iv 4 455), (iv 8 456)] 0)
noncomputable def o_161 (P : Params) : Obj := (cdW "put_whole" "put_whole" 458 112 2 0 0 3 156 465)
noncomputable def o_162 (P : Params) : Obj := (fnW "put_whole" "put_whole" (stm 53) (sv "quic.varint" 451) 161)
noncomputable def o_168 (P : Params) : Obj := (cdW "varint_size" "varint_size" 468 120 1 0 0 3 163 473)
noncomputable def o_169 (P : Params) : Obj := (fnW "varint_size" "varint_size" (stm 54) (sv "quic.varint" 451) 168)
noncomputable def o_175 (P : Params) : Obj := (cdW "put_varint" "put_varint" 476 125 2 0 0 3 170 482)
noncomputable def o_176 (P : Params) : Obj := (fnW "put_varint" "put_varint" (stm 55) (sv "quic.varint" 451) 175)
noncomputable def o_177 (P : Params) : Obj := (dcO #[(en P "ping" 487 (iv 1 399)), (en P "reset_stream" 488 (iv 4 405)), (en P "stop_sending" 489 (iv 5 407)), (en P "max_data" 490 (iv 16 415)), (en P "max_stream_data" 491 (iv 17 417)), (en P "data_blocked" 492 (iv 20 423)), (en P "stream_data_blocked" 493 (iv 21 425)), (en P "retire_connection_id" 494 (iv 25 433)), (en P "handshake_done" 495 (iv 30 443))] 9)
noncomputable def o_181 (P : Params) : Obj := (cdO #[(sv "put_numbers" 506), (sv "put_numbers" 507), (sv "/claim/cut.py" 508), (iv 134 0), (iv 1 0), (iv 0 0), (iv 0 0), (iv 3 0), (.ref 178), (.bool true), (iv 181 0), (.ref 179), .none, .none, .none, (.ref 180), (iv 509 0), (iv 134 0), (sv "/claim/cut.py" 510)])
noncomputable def o_182 (P : Params) : Obj := (fnW "put_numbers" "put_numbers" (stm 58) (sv "quic.framesout" 485) 181)
noncomputable def o_230 (P : Params) : Obj := (cdW "put_octets_frame" "put_octets_frame" 584 163 1 0 0 3 225 589)
noncomputable def o_231 (P : Params) : Obj := (fnW "put_octets_frame" "put_octets_frame" (stm 65) (sv "quic.framesout" 485) 230)
noncomputable def o_237 (P : Params) : Obj := (cdW "put_frame" "put_frame" 592 176 1 0 0 3 232 598)
noncomputable def o_238 (P : Params) : Obj := (fnW "put_frame" "put_frame" (stm 66) (sv "quic.framesout" 485) 237)
noncomputable def o_242 (P : Params) : Obj := (cdO #[(sv "put_frames" 601), (sv "put_frames" 602), (sv "/claim/cut.py" 603), (iv 194 0), (iv 1 0), (iv 0 0), (iv 0 0), (iv 3 0), (.ref 239), (.bool true), (iv 181 0), (.ref 240), .none, .none, .none, (.ref 241), (iv 604 0), (iv 194 0), (sv "/claim/cut.py" 605)])
noncomputable def o_243 (P : Params) : Obj := (fnW "put_frames" "put_frames" (stm 67) (sv "quic.framesout" 485) 242)
noncomputable def o_271 (P : Params) : Obj := (cdW "number_size" "number_size" 648 209 2 0 0 3 266 655)
noncomputable def o_272 (P : Params) : Obj := (fnW "number_size" "number_size" (stm 75) (sv "quic.pnum" 644) 271)
noncomputable def o_278 (P : Params) : Obj := (cdW "cut_number" "cut_number" 658 215 2 0 0 3 273 664)
noncomputable def o_279 (P : Params) : Obj := (fnW "cut_number" "cut_number" (stm 76) (sv "quic.pnum" 644) 278)
noncomputable def o_285 (P : Params) : Obj := (cdW "mixed_octets" "mixed_octets" 683 224 2 0 0 3 280 690)
noncomputable def o_286 (P : Params) : Obj := (fnW "mixed_octets" "mixed_octets" (stm 83) (sv "quic.seal" 667) 285)
noncomputable def o_292 (P : Params) : Obj := (cdW "turned_octets" "turned_octets" 693 229 3 0 0 3 287 702)
noncomputable def o_293 (P : Params) : Obj := (fnW "turned_octets" "turned_octets" (stm 84) (sv "quic.seal" 667) 292)
noncomputable def o_299 (P : Params) : Obj := (cdW "tag_of" "tag_of" 705 235 4 0 0 3 294 713)
noncomputable def o_300 (P : Params) : Obj := (fnW "tag_of" "tag_of" (stm 85) (sv "quic.seal" 667) 299)
noncomputable def o_306 (P : Params) : Obj := (cdW "seal_payload" "seal_payload" 716 238 4 0 0 3 301 724)
noncomputable def o_307 (P : Params) : Obj := (fnW "seal_payload" "seal_payload" (stm 86) (sv "quic.seal" 667) 306)
noncomputable def o_313 (P : Params) : Obj := (cdW "head_mask" "head_mask" 727 241 2 0 0 3 308 732)
noncomputable def o_314 (P : Params) : Obj := (fnW "head_mask" "head_mask" (stm 87) (sv "quic.seal" 667) 313)
noncomputable def o_320 (P : Params) : Obj := (cdW "turned_first" "turned_first" 735 243 2 0 0 3 315 740)
noncomputable def o_321 (P : Params) : Obj := (fnW "turned_first" "turned_first" (stm 88) (sv "quic.seal" 667) 320)
noncomputable def o_325 (P : Params) : Obj := (cdO #[(sv "turned_number" 743), (sv "turned_number" 744), (sv "/claim/cut.py" 745), (iv 245 0), (iv 2 0), (iv 0 0), (iv 0 0), (iv 3 0), (.ref 322), (.bool true), (iv 181 0), (.ref 323), .none, .none, .none, (.ref 324), (iv 746 0), (iv 245 0), (sv "/claim/cut.py" 747)])
noncomputable def o_326 (P : Params) : Obj := (fnW "turned_number" "turned_number" (stm 89) (sv "quic.seal" 667) 325)
noncomputable def o_332 (P : Params) : Obj := (cdW "sample_at" "sample_at" 749 247 3 0 0 3 327 755)
noncomputable def o_333 (P : Params) : Obj := (fnW "sample_at" "sample_at" (stm 90) (sv "quic.seal" 667) 332)
noncomputable def o_339 (P : Params) : Obj := (cdW "padded_payload" "padded_payload" 758 251 2 0 0 3 334 764)
noncomputable def o_340 (P : Params) : Obj := (fnW "padded_payload" "padded_payload" (stm 91) (sv "quic.seal" 667) 339)
noncomputable def o_346 (P : Params) : Obj := (cdW "protected_packet" "protected_packet" 767 254 5 0 0 3 341 779)
noncomputable def o_347 (P : Params) : Obj := (fnW "protected_packet" "protected_packet" (stm 92) (sv "quic.seal" 667) 346)
noncomputable def o_353 (P : Params) : Obj := (cdW "short_head" "short_head" 784 261 4 0 0 3 348 791)
noncomputable def o_354 (P : Params) : Obj := (fnW "short_head" "short_head" (stm 94) (sv "quic.shorthead" 782) 353)
noncomputable def o_360 (P : Params) : Obj := (cdW "head_of" "head_of" 794 263 3 0 0 3 355 803)
noncomputable def o_361 (P : Params) : Obj := (fnW "head_of" "head_of" (stm 95) (sv "quic.shorthead" 782) 360)
noncomputable def o_367 (P : Params) : Obj := (cdW "number_in" "number_in" 806 270 1 0 0 3 362 810)
noncomputable def o_368 (P : Params) : Obj := (fnW "number_in" "number_in" (stm 96) (sv "quic.shorthead" 782) 367)
noncomputable def o_374 (P : Params) : Obj := (cdW "put_packet" "put_packet" 813 272 3 0 0 3 369 822)
noncomputable def o_375 (P : Params) : Obj := (fnW "put_packet" "put_packet" (stm 97) (sv "quic.shorthead" 782) 374)
noncomputable def o_381 (P : Params) : Obj := (cdW "packet_size" "packet_size" 825 277 2 0 0 3 376 832)
noncomputable def o_382 (P : Params) : Obj := (fnW "packet_size" "packet_size" (stm 98) (sv "quic.shorthead" 782) 381)
noncomputable def o_383 (P : Params) : Obj := (tpO #[(sv "path_challenge" 837), (sv "path_response" 838)] 0)
noncomputable def o_389 (P : Params) : Obj := (cdW "packet_with" "packet_with" 840 283 4 0 0 3 384 849)
noncomputable def o_390 (P : Params) : Obj := (fnW "packet_with" "packet_with" (stm 101) (sv "quic.datagrams" 835) 389)
noncomputable def o_396 (P : Params) : Obj := (cdW "rows_size" "rows_size" 852 290 3 0 0 3 391 863)
noncomputable def o_397 (P : Params) : Obj := (fnW "rows_size" "rows_size" (stm 102) (sv "quic.datagrams" 835) 396)
noncomputable def o_401 (P : Params) : Obj := (cdO #[(sv "must_fill" 866), (sv "must_fill" 867), (sv "/claim/cut.py" 868), (iv 296 0), (iv 3 0), (iv 0 0), (iv 0 0), (iv 3 0), (.ref 398), (.bool true), (iv 181 0), (.ref 399), .none, .none, .none, (.ref 400), (iv 869 0), (iv 296 0), (sv "/claim/cut.py" 870)])
noncomputable def o_402 (P : Params) : Obj := (fnW "must_fill" "must_fill" (stm 103) (sv "quic.datagrams" 835) 401)
noncomputable def o_408 (P : Params) : Obj := (cdW "padded_rows" "padded_rows" 872 300 2 0 0 3 403 879)
noncomputable def o_409 (P : Params) : Obj := (fnW "padded_rows" "padded_rows" (stm 104) (sv "quic.datagrams" 835) 408)
noncomputable def o_415 (P : Params) : Obj := (cdW "full_rows" "full_rows" 882 303 5 0 0 3 410 893)
noncomputable def o_416 (P : Params) : Obj := (fnW "full_rows" "full_rows" (stm 105) (sv "quic.datagrams" 835) 415)
noncomputable def o_422 (P : Params) : Obj := (cdW "ids_of" "ids_of" 900 314 1 0 0 3 417 904)
noncomputable def o_423 (P : Params) : Obj := (fnW "ids_of" "ids_of" (stm 108) (sv "quic.connout" 896) 422)
noncomputable def o_427 (P : Params) : Obj := (cdO #[(sv "places_of" 907), (sv "places_of" 908), (sv "/claim/cut.py" 909), (iv 316 0), (iv 1 0), (iv 0 0), (iv 0 0), (iv 3 0), (.ref 424), (.bool true), (iv 181 0), (.ref 425), .none, .none, .none, (.ref 426), (iv 910 0), (iv 316 0), (sv "/claim/cut.py" 911)])
noncomputable def o_428 (P : Params) : Obj := (fnW "places_of" "places_of" (stm 109) (sv "quic.connout" 896) 427)
noncomputable def o_434 (P : Params) : Obj := (cdW "sealed" "sealed" 913 318 4 0 0 3 429 925)
noncomputable def o_435 (P : Params) : Obj := (fnW "sealed" "sealed" (stm 110) (sv "quic.connout" 896) 434)
noncomputable def o_439 (P : Params) : Obj := (cdO #[(sv "with_padding" 928), (sv "with_padding" 929), (sv "/claim/cut.py" 930), (iv 333 0), (iv 3 0), (iv 0 0), (iv 0 0), (iv 3 0), (.ref 436), (.bool true), (iv 181 0), (.ref 437), .none, .none, .none, (.ref 438), (iv 931 0), (iv 333 0), (sv "/claim/cut.py" 932)])
noncomputable def o_440 (P : Params) : Obj := (fnW "with_padding" "with_padding" (stm 111) (sv "quic.connout" 896) 439)
noncomputable def o_446 (P : Params) : Obj := (cdW "trials_aside" "trials_aside" 934 338 2 0 0 3 441 944)
noncomputable def o_447 (P : Params) : Obj := (fnW "trials_aside" "trials_aside" (stm 112) (sv "quic.connout" 896) 446)
noncomputable def o_451 (P : Params) : Obj := (cdO #[(sv "other_answers" 947), (sv "other_answers" 948), (sv "/claim/cut.py" 949), (iv 350 0), (iv 2 0), (iv 0 0), (iv 0 0), (iv 3 0), (.ref 448), (.bool true), (iv 181 0), (.ref 449), .none, .none, .none, (.ref 450), (iv 950 0), (iv 350 0), (sv "/claim/cut.py" 951)])
noncomputable def o_452 (P : Params) : Obj := (fnW "other_answers" "other_answers" (stm 113) (sv "quic.connout" 896) 451)
noncomputable def o_458 (P : Params) : Obj := (cdW "is_silent" "is_silent" 953 369 1 0 0 3 453 959)
noncomputable def o_459 (P : Params) : Obj := (fnW "is_silent" "is_silent" (stm 114) (sv "quic.connout" 896) 458)
noncomputable def o_465 (P : Params) : Obj := (cdW "add_span" "add_span" 964 376 3 0 0 3 460 974)
noncomputable def o_466 (P : Params) : Obj := (fnW "add_span" "add_span" (stm 116) (sv "quic.spans" 962) 465)
noncomputable def o_479 (P : Params) : Obj := (cdW "__init__" "CryptoOut.__init__" 991 394 1 0 0 3 474 995)
noncomputable def o_480 (P : Params) : Obj := (fnW "__init__" "CryptoOut.__init__" (nthS 0 (cdBody (stm 118))) (sv "quic.cryptostream" 977) 479)
noncomputable def o_486 (P : Params) : Obj := (cdW "put" "CryptoOut.put" 998 399 2 0 0 3 481 1003)
noncomputable def o_487 (P : Params) : Obj := (fnW "put" "CryptoOut.put" (nthS 1 (cdBody (stm 118))) (sv "quic.cryptostream" 977) 486)
noncomputable def o_517 (P : Params) : Obj := (dcO #[(en P "__module__" 986 (sv "quic.cryptostream" 977)), (en P "__firstlineno__" 990 (iv 392 989)), (en P "__init__" 997 (.ref 480)), (en P "put" 1005 (.ref 487)), (en P "next_chunk" 1013 (.ref 494)), (en P "on_lost" 1022 (.ref 501)), (en P "on_acked" 1031 (.ref 508)), (en P "is_done" 1038 (.ref 515)), (en P "__static_attributes__" 1042 (.ref 516)), (en P "__dict__" 1044 (.ref 519)), (en P "__weakref__" 1046 (.ref 520)), (en P "__doc__" 1047 .none)] 4)
noncomputable def o_518 (P : Params) : Obj := ⟨(.type "type"), none, (.cls ⟨(Str.ofString "CryptoOut"), [(.type "object")], [(.ref 518), (.type "object")], 517, (Str.ofString "CryptoOut"), true, [], [], false, none, false⟩), #[none, none, (some (sv "CryptoOut" 979)), (some (sv "CryptoOut" 987)), (some (.builtin "object.__new__")), (some (.bool true))]⟩
noncomputable def o_528 (P : Params) : Obj := (cdW "initial_window" "initial_window" 1058 418 1 0 0 3 523 1062)
noncomputable def o_529 (P : Params) : Obj := (fnW "initial_window" "initial_window" (stm 123) (sv "quic.newreno" 1050) 528)
noncomputable def o_542 (P : Params) : Obj := (cdW "__init__" "NewReno.__init__" 1077 422 2 0 0 3 537 1082)
noncomputable def o_543 (P : Params) : Obj := (fnW "__init__" "NewReno.__init__" (nthS 0 (cdBody (stm 124))) (sv "quic.newreno" 1050) 542)
noncomputable def o_570 (P : Params) : Obj := (cdW "on_sent" "NewReno.on_sent" 1108 439 2 0 0 3 565 1113)
noncomputable def o_571 (P : Params) : Obj := (fnW "on_sent" "NewReno.on_sent" (nthS 4 (cdBody (stm 124))) (sv "quic.newreno" 1050) 570)
noncomputable def o_615 (P : Params) : Obj := (dcO #[(en P "__module__" 1072 (sv "quic.newreno" 1050)), (en P "__firstlineno__" 1076 (iv 420 1075)), (en P "__init__" 1084 (.ref 543)), (en P "may_send" 1092 (.ref 550)), (en P "is_slow_start" 1099 (.ref 557)), (en P "in_recovery" 1107 (.ref 564)), (en P "on_sent" 1115 (.ref 571)), (en P "on_discarded" 1123 (.ref 578)), (en P "on_acked" 1135 (.ref 585)), (en P "widen" 1143 (.ref 592)), (en P "on_congestion" 1152 (.ref 599)), (en P "on_lost" 1162 (.ref 606)), (en P "on_persistent" 1169 (.ref 613)), (en P "__static_attributes__" 1176 (.ref 614)), (en P "__dict__" 1178 (.ref 617)), (en P "__weakref__" 1180 (.ref 618)), (en P "__doc__" 1181 .none)] 4)
noncomputable def o_616 (P : Params) : Obj := ⟨(.type "type"), none, (.cls ⟨(Str.ofString "NewReno"), [(.type "object")], [(.ref 616), (.type "object")], 615, (Str.ofString "NewReno"), true, [], [], false, none, false⟩), #[none, none, (some (sv "NewReno" 1065)), (some (sv "NewReno" 1073)), (some (.builtin "object.__new__")), (some (.bool true))]⟩
noncomputable def o_633 (P : Params) : Obj := (cdW "__init__" "Path.__init__" 1208 467 3 0 0 3 628 1214)
noncomputable def o_634 (P : Params) : Obj := (fnW "__init__" "Path.__init__" (nthS 0 (cdBody (stm 131))) (sv "quic.paths" 1184) 633)
noncomputable def o_647 (P : Params) : Obj := (cdW "room" "Path.room" 1224 480 1 0 0 3 642 1228)
noncomputable def o_648 (P : Params) : Obj := (fnW "room" "Path.room" (nthS 2 (cdBody (stm 131))) (sv "quic.paths" 1184) 647)
noncomputable def o_654 (P : Params) : Obj := (cdW "may_send" "Path.may_send" 1231 483 2 0 0 3 649 1237)
noncomputable def o_655 (P : Params) : Obj := (fnW "may_send" "Path.may_send" (nthS 3 (cdBody (stm 131))) (sv "quic.paths" 1184) 654)
noncomputable def o_661 (P : Params) : Obj := (cdW "on_received" "Path.on_received" 1240 487 2 0 0 3 656 1245)
noncomputable def o_662 (P : Params) : Obj := (fnW "on_received" "Path.on_received" (nthS 4 (cdBody (stm 131))) (sv "quic.paths" 1184) 661)
noncomputable def o_668 (P : Params) : Obj := (cdW "on_sent" "Path.on_sent" 1248 490 2 0 0 3 663 1253)
noncomputable def o_669 (P : Params) : Obj := (fnW "on_sent" "Path.on_sent" (nthS 5 (cdBody (stm 131))) (sv "quic.paths" 1184) 668)
noncomputable def o_699 (P : Params) : Obj := (dcO #[(en P "__module__" 1203 (sv "quic.paths" 1184)), (en P "__firstlineno__" 1207 (iv 465 1206)), (en P "__init__" 1216 (.ref 634)), (en P "is_proven" 1223 (.ref 641)), (en P "room" 1230 (.ref 648)), (en P "may_send" 1239 (.ref 655)), (en P "on_received" 1247 (.ref 662)), (en P "on_sent" 1255 (.ref 669)), (en P "prove" 1262 (.ref 676)), (en P "challenge" 1272 (.ref 683)), (en P "fail" 1279 (.ref 690)), (en P "renew" 1286 (.ref 697)), (en P "__static_attributes__" 1295 (.ref 698)), (en P "__dict__" 1297 (.ref 701)), (en P "__weakref__" 1299 (.ref 702)), (en P "__doc__" 1300 .none)] 4)
noncomputable def o_700 (P : Params) : Obj := ⟨(.type "type"), none, (.cls ⟨(Str.ofString "Path"), [(.type "object")], [(.ref 700), (.type "object")], 699, (Str.ofString "Path"), true, [], [], false, none, false⟩), #[none, none, (some (sv "Path" 1196)), (some (sv "Path" 1204)), (some (.builtin "object.__new__")), (some (.bool true))]⟩
noncomputable def o_717 (P : Params) : Obj := (cdW "__init__" "Paths.__init__" 1315 515 5 0 0 3 712 1323)
noncomputable def o_718 (P : Params) : Obj := (fnW "__init__" "Paths.__init__" (nthS 0 (cdBody (stm 132))) (sv "quic.paths" 1184) 717)
noncomputable def o_724 (P : Params) : Obj := (cdW "path_of" "Paths.path_of" 1326 524 2 0 0 3 719 1332)
noncomputable def o_725 (P : Params) : Obj := (fnW "path_of" "Paths.path_of" (nthS 1 (cdBody (stm 132))) (sv "quic.paths" 1184) 724)
noncomputable def o_731 (P : Params) : Obj := (cdW "opened" "Paths.opened" 1335 530 2 0 0 3 726 1341)
noncomputable def o_732 (P : Params) : Obj := (fnW "opened" "Paths.opened" (nthS 2 (cdBody (stm 132))) (sv "quic.paths" 1184) 731)
noncomputable def o_738 (P : Params) : Obj := (cdW "on_datagram" "Paths.on_datagram" 1344 537 3 0 0 3 733 1351)
noncomputable def o_739 (P : Params) : Obj := (fnW "on_datagram" "Paths.on_datagram" (nthS 3 (cdBody (stm 132))) (sv "quic.paths" 1184) 738)
noncomputable def o_818 (P : Params) : Obj := (dcO #[(en P "__module__" 1310 (sv "quic.paths" 1184)), (en P "__firstlineno__" 1314 (iv 513 1313)), (en P "__init__" 1325 (.ref 718)), (en P "path_of" 1334 (.ref 725)), (en P "opened" 1343 (.ref 732)), (en P "on_datagram" 1353 (.ref 739)), (en P "on_packet" 1363 (.ref 746)), (en P "move_to" 1371 (.ref 753)), (en P "take_challenge" 1380 (.ref 760)), (en P "next_answer" 1387 (.ref 767)), (en P "wants_challenge" 1394 (.ref 774)), (en P "ask_again" 1401 (.ref 781)), (en P "on_challenge_lost" 1409 (.ref 788)), (en P "take_response" 1417 (.ref 795)), (en P "on_handshake_packet" 1425 (.ref 802)), (en P "next_time" 1432 (.ref 809)), (en P "on_time" 1440 (.ref 816)), (en P "__static_attributes__" 1448 (.ref 817)), (en P "__dict__" 1450 (.ref 820)), (en P "__weakref__" 1452 (.ref 821)), (en P "__doc__" 1453 .none)] 4)
noncomputable def o_819 (P : Params) : Obj := ⟨(.type "type"), none, (.cls ⟨(Str.ofString "Paths"), [(.type "object")], [(.ref 819), (.type "object")], 818, (Str.ofString "Paths"), true, [], [], false, none, false⟩), #[none, none, (some (sv "Paths" 1303)), (some (sv "Paths" 1311)), (some (.builtin "object.__new__")), (some (.bool true))]⟩
noncomputable def o_838 (P : Params) : Obj := (tpO #[.none] 0)
noncomputable def o_844 (P : Params) : Obj := (cdW "__init__" "Rtt.__init__" 1483 583 2 0 0 3 839 1488)
noncomputable def o_845 (P : Params) : Obj := (fnO ⟨(Str.ofString "__init__"), (Str.ofString "Rtt.__init__"), fdArgs (nthS 0 (cdBody (stm 137))), (.stmts (fdBody (nthS 0 (cdBody (stm 137))))), fdScope (nthS 0 (cdBody (stm 137))), 3, [], (.ref 838), .none, .none, (sv "quic.rtt" 1456), none, (.ref 844), .none, 0⟩)
noncomputable def o_851 (P : Params) : Obj := (cdW "smoothed" "Rtt.smoothed" 1491 591 1 0 0 3 846 1495)
noncomputable def o_852 (P : Params) : Obj := (fnW "smoothed" "Rtt.smoothed" (nthS 1 (cdBody (stm 137))) (sv "quic.rtt" 1456) 851)
noncomputable def o_879 (P : Params) : Obj := (cdW "probe_base" "Rtt.probe_base" 1525 616 1 0 0 3 874 1529)
noncomputable def o_880 (P : Params) : Obj := (fnW "probe_base" "Rtt.probe_base" (nthS 5 (cdBody (stm 137))) (sv "quic.rtt" 1456) 879)
noncomputable def o_882 (P : Params) : Obj := (dcO #[(en P "__module__" 1478 (sv "quic.rtt" 1456)), (en P "__firstlineno__" 1482 (iv 581 1481)), (en P "__init__" 1490 (.ref 845)), (en P "smoothed" 1497 (.ref 852)), (en P "variance" 1504 (.ref 859)), (en P "sample" 1517 (.ref 866)), (en P "begin_least" 1524 (.ref 873)), (en P "probe_base" 1531 (.ref 880)), (en P "__static_attributes__" 1538 (.ref 881)), (en P "__dict__" 1540 (.ref 884)), (en P "__weakref__" 1542 (.ref 885)), (en P "__doc__" 1543 .none)] 4)
noncomputable def o_883 (P : Params) : Obj := ⟨(.type "type"), none, (.cls ⟨(Str.ofString "Rtt"), [(.type "object")], [(.ref 883), (.type "object")], 882, (Str.ofString "Rtt"), true, [], [], false, none, false⟩), #[none, none, (some (sv "Rtt" 1471)), (some (sv "Rtt" 1479)), (some (.builtin "object.__new__")), (some (.bool true))]⟩
noncomputable def o_893 (P : Params) : Obj := (cdW "add_number" "add_number" 1548 619 2 0 0 3 888 1553)
noncomputable def o_894 (P : Params) : Obj := (fnW "add_number" "add_number" (stm 139) (sv "quic.ranges" 1546) 893)
noncomputable def o_900 (P : Params) : Obj := (cdW "add_range" "add_range" 1556 621 3 0 0 3 895 1565)
noncomputable def o_901 (P : Params) : Obj := (fnW "add_range" "add_range" (stm 140) (sv "quic.ranges" 1546) 900)
noncomputable def o_920 (P : Params) : Obj := (cdW "__init__" "SentPacket.__init__" 1596 642 5 0 0 3 915 1604)
noncomputable def o_921 (P : Params) : Obj := (fnW "__init__" "SentPacket.__init__" (nthS 0 (cdBody (stm 146))) (sv "quic.spaces" 1574) 920)
noncomputable def o_923 (P : Params) : Obj := (dcO #[(en P "__module__" 1591 (sv "quic.spaces" 1574)), (en P "__firstlineno__" 1595 (iv 640 1594)), (en P "__init__" 1606 (.ref 921)), (en P "__static_attributes__" 1613 (.ref 922)), (en P "__dict__" 1615 (.ref 925)), (en P "__weakref__" 1617 (.ref 926)), (en P "__doc__" 1618 .none)] 4)
noncomputable def o_924 (P : Params) : Obj := ⟨(.type "type"), none, (.cls ⟨(Str.ofString "SentPacket"), [(.type "object")], [(.ref 924), (.type "object")], 923, (Str.ofString "SentPacket"), true, [], [], false, none, false⟩), #[none, none, (some (sv "SentPacket" 1584)), (some (sv "SentPacket" 1592)), (some (.builtin "object.__new__")), (some (.bool true))]⟩
noncomputable def o_941 (P : Params) : Obj := (cdW "__init__" "Space.__init__" 1633 651 2 0 0 3 936 1638)
noncomputable def o_942 (P : Params) : Obj := (fnW "__init__" "Space.__init__" (nthS 0 (cdBody (stm 147))) (sv "quic.spaces" 1574) 941)
noncomputable def o_955 (P : Params) : Obj := (cdW "on_received" "Space.on_received" 1649 673 5 0 0 3 950 1659)
noncomputable def o_956 (P : Params) : Obj := (fnW "on_received" "Space.on_received" (nthS 2 (cdBody (stm 147))) (sv "quic.spaces" 1574) 955)
noncomputable def o_976 (P : Params) : Obj := (cdW "owes_ack" "Space.owes_ack" 1678 699 1 0 0 3 971 1682)
noncomputable def o_977 (P : Params) : Obj := (fnW "owes_ack" "Space.owes_ack" (nthS 5 (cdBody (stm 147))) (sv "quic.spaces" 1574) 976)
noncomputable def o_983 (P : Params) : Obj := (cdW "take_number" "Space.take_number" 1685 702 1 0 0 3 978 1689)
noncomputable def o_984 (P : Params) : Obj := (fnW "take_number" "Space.take_number" (nthS 6 (cdBody (stm 147))) (sv "quic.spaces" 1574) 983)
noncomputable def o_990 (P : Params) : Obj := (cdW "on_sent" "Space.on_sent" 1692 706 5 0 0 3 985 1701)
noncomputable def o_991 (P : Params) : Obj := (fnW "on_sent" "Space.on_sent" (nthS 7 (cdBody (stm 147))) (sv "quic.spaces" 1574) 990)
noncomputable def o_1035 (P : Params) : Obj := (cdO #[(sv "eliciting_left" 1750), (sv "Space.eliciting_left" 1751), (sv "/claim/cut.py" 1752), (iv 732 0), (iv 1 0), (iv 0 0), (iv 0 0), (iv 3 0), (.ref 1032), (.bool true), (iv 181 0), (.ref 1033), .none, .none, .none, (.ref 1034), (iv 1753 0), (iv 732 0), (sv "/claim/cut.py" 1754)])
noncomputable def o_1036 (P : Params) : Obj := (fnW "eliciting_left" "Space.eliciting_left" (nthS 14 (cdBody (stm 147))) (sv "quic.spaces" 1574) 1035)
noncomputable def o_1064 (P : Params) : Obj := (dcO #[(en P "__module__" 1628 (sv "quic.spaces" 1574)), (en P "__firstlineno__" 1632 (iv 649 1631)), (en P "__init__" 1640 (.ref 942)), (en P "is_known" 1648 (.ref 949)), (en P "on_received" 1661 (.ref 956)), (en P "ack_frame" 1670 (.ref 963)), (en P "on_ack_sent" 1677 (.ref 970)), (en P "owes_ack" 1684 (.ref 977)), (en P "take_number" 1691 (.ref 984)), (en P "on_sent" 1703 (.ref 991)), (en P "take" 1709 (.ref 996)), (en P "acked_by" 1717 (.ref 1003)), (en P "note_acked" 1725 (.ref 1010)), (en P "note_ranges" 1733 (.ref 1017)), (en P "is_beyond" 1741 (.ref 1024)), (en P "note_largest" 1749 (.ref 1031)), (en P "eliciting_left" 1755 (.ref 1036)), (en P "bare_numbers" 1761 (.ref 1041)), (en P "octets_out" 1768 (.ref 1048)), (en P "sent_rows" 1775 (.ref 1055)), (en P "forget" 1782 (.ref 1062)), (en P "__static_attributes__" 1800 (.ref 1063)), (en P "__dict__" 1802 (.ref 1066)), (en P "__weakref__" 1804 (.ref 1067)), (en P "__doc__" 1805 .none)] 4)
noncomputable def o_1065 (P : Params) : Obj := ⟨(.type "type"), none, (.cls ⟨(Str.ofString "Space"), [(.type "object")], [(.ref 1065), (.type "object")], 1064, (Str.ofString "Space"), true, [], [], false, none, false⟩), #[none, none, (some (sv "Space" 1621)), (some (sv "Space" 1629)), (some (.builtin "object.__new__")), (some (.bool true))]⟩
noncomputable def o_1075 (P : Params) : Obj := (cdW "kept_ranges" "kept_ranges" 1808 746 1 0 0 3 1070 1812)
noncomputable def o_1076 (P : Params) : Obj := (fnW "kept_ranges" "kept_ranges" (stm 148) (sv "quic.spaces" 1574) 1075)
noncomputable def o_1082 (P : Params) : Obj := (cdW "_law_take" "_law_take" 1817 751 2 0 0 3 1077 1822)
noncomputable def o_1083 (P : Params) : Obj := (fnW "_law_take" "_law_take" (stm 150) (sv "law_pf0282_01" 1815) 1082)
noncomputable def o_1085 (P : Params) : Obj := ⟨.none, none, (.fields #[]), #[]⟩
noncomputable def o_1087 (P : Params) : Obj := (cdO #[(sv "_law_state" 1825), (sv "_law_state" 1826), (sv "/claim/cut.py" 1827), (iv 756 0), (iv 0 0), (iv 0 0), (iv 0 0), (iv 3 0), (.ref 1084), (.bool true), (iv 181 0), (.ref 1085), .none, .none, .none, (.ref 1086), (iv 1828 0), (iv 756 0), (sv "/claim/cut.py" 1829)])
noncomputable def o_1088 (P : Params) : Obj := (fnW "_law_state" "_law_state" (stm 151) (sv "law_pf0282_01" 1815) 1087)
noncomputable def o_1092 (P : Params) : Obj := (cdO #[(sv "law" 1831), (sv "law" 1832), (sv "/claim/cut.py" 1833), (iv 774 0), (iv 1 0), (iv 0 0), (iv 0 0), (iv 3 0), (.ref 1089), (.bool true), (iv 181 0), (.ref 1090), .none, .none, .none, (.ref 1091), (iv 1834 0), (iv 774 0), (sv "/claim/cut.py" 1835)])
noncomputable def o_1093 (P : Params) : Obj := (fnW "law" "law" (stm 152) (sv "law_pf0282_01" 1815) 1092)
noncomputable def KK (P : Params) : Frag := [(0, o_0 P), (2, o_2 P), (3, o_3 P), (4, o_4 P), (22, o_22 P), (28, o_28 P), (29, o_29 P), (35, o_35 P), (36, o_36 P), (42, o_42 P), (43, o_43 P), (47, o_47 P), (48, o_48 P), (54, o_54 P), (55, o_55 P), (61, o_61 P), (62, o_62 P), (68, o_68 P), (69, o_69 P), (75, o_75 P), (76, o_76 P), (87, o_87 P), (88, o_88 P), (89, o_89 P), (90, o_90 P), (96, o_96 P), (97, o_97 P), (103, o_103 P), (104, o_104 P), (108, o_108 P), (109, o_109 P), (113, o_113 P), (114, o_114 P), (155, o_155 P), (161, o_161 P), (162, o_162 P), (168, o_168 P), (169, o_169 P), (175, o_175 P), (176, o_176 P), (177, o_177 P), (181, o_181 P), (182, o_182 P), (230, o_230 P), (231, o_231 P), (237, o_237 P), (238, o_238 P), (242, o_242 P), (243, o_243 P), (271, o_271 P), (272, o_272 P), (278, o_278 P), (279, o_279 P), (285, o_285 P), (286, o_286 P), (292, o_292 P), (293, o_293 P), (299, o_299 P), (300, o_300 P), (306, o_306 P), (307, o_307 P), (313, o_313 P), (314, o_314 P), (320, o_320 P), (321, o_321 P), (325, o_325 P), (326, o_326 P), (332, o_332 P), (333, o_333 P), (339, o_339 P), (340, o_340 P), (346, o_346 P), (347, o_347 P), (353, o_353 P), (354, o_354 P), (360, o_360 P), (361, o_361 P), (367, o_367 P), (368, o_368 P), (374, o_374 P), (375, o_375 P), (381, o_381 P), (382, o_382 P), (383, o_383 P), (389, o_389 P), (390, o_390 P), (396, o_396 P), (397, o_397 P), (401, o_401 P), (402, o_402 P), (408, o_408 P), (409, o_409 P), (415, o_415 P), (416, o_416 P), (422, o_422 P), (423, o_423 P), (427, o_427 P), (428, o_428 P), (434, o_434 P), (435, o_435 P), (439, o_439 P), (440, o_440 P), (446, o_446 P), (447, o_447 P), (451, o_451 P), (452, o_452 P), (458, o_458 P), (459, o_459 P), (465, o_465 P), (466, o_466 P), (479, o_479 P), (480, o_480 P), (486, o_486 P), (487, o_487 P), (517, o_517 P), (518, o_518 P), (528, o_528 P), (529, o_529 P), (542, o_542 P), (543, o_543 P), (570, o_570 P), (571, o_571 P), (615, o_615 P), (616, o_616 P), (633, o_633 P), (634, o_634 P), (647, o_647 P), (648, o_648 P), (654, o_654 P), (655, o_655 P), (661, o_661 P), (662, o_662 P), (668, o_668 P), (669, o_669 P), (699, o_699 P), (700, o_700 P), (717, o_717 P), (718, o_718 P), (724, o_724 P), (725, o_725 P), (731, o_731 P), (732, o_732 P), (738, o_738 P), (739, o_739 P), (818, o_818 P), (819, o_819 P), (838, o_838 P), (844, o_844 P), (845, o_845 P), (851, o_851 P), (852, o_852 P), (879, o_879 P), (880, o_880 P), (882, o_882 P), (883, o_883 P), (893, o_893 P), (894, o_894 P), (900, o_900 P), (901, o_901 P), (920, o_920 P), (921, o_921 P), (923, o_923 P), (924, o_924 P), (941, o_941 P), (942, o_942 P), (955, o_955 P), (956, o_956 P), (976, o_976 P), (977, o_977 P), (983, o_983 P), (984, o_984 P), (990, o_990 P), (991, o_991 P), (1035, o_1035 P), (1036, o_1036 P), (1064, o_1064 P), (1065, o_1065 P), (1075, o_1075 P), (1076, o_1076 P), (1082, o_1082 P), (1083, o_1083 P), (1085, o_1085 P), (1087, o_1087 P), (1088, o_1088 P), (1092, o_1092 P), (1093, o_1093 P)]
noncomputable def kt (P : Params) : X.KT := (.node (some (o_0 P)) (.node none (.node (some (o_3 P)) (.node none (.node none (.node none (.node none (.node none .nil (.node (some (o_383 P)) .nil .nil)) (.node none (.node none (.node none (.node (some (o_1087 P)) .nil .nil) .nil) .nil) (.node (some (o_447 P)) .nil .nil))) (.node none (.node none (.node none (.node (some (o_543 P)) .nil .nil) .nil) (.node (some (o_415 P)) .nil .nil)) (.node none .nil (.node (some (o_479 P)) .nil (.node (some (o_991 P)) .nil .nil))))) (.node (some (o_47 P)) (.node none (.node none (.node (some (o_271 P)) .nil .nil) (.node none (.node (some (o_655 P)) .nil .nil) .nil)) .nil) (.node none (.node (some (o_175 P)) .nil .nil) (.node none (.node (some (o_367 P)) .nil (.node (some (o_879 P)) .nil .nil)) .nil)))) (.node none (.node none (.node none (.node none .nil (.node none (.node (some (o_647 P)) .nil .nil) .nil)) .nil) (.node (some (o_103 P)) (.node none .nil (.node (some (o_423 P)) .nil .nil)) (.node (some (o_231 P)) (.node none (.node (some (o_615 P)) .nil .nil) .nil) (.node (some (o_487 P)) .nil .nil)))) (.node (some (o_55 P)) (.node (some (o_87 P)) (.node none (.node (some (o_279 P)) .nil .nil) .nil) (.node none .nil (.node none .nil (.node (some (o_983 P)) .nil .nil)))) (.node none (.node none .nil (.node (some (o_439 P)) .nil .nil)) (.node none (.node (some (o_375 P)) .nil .nil) .nil))))) (.node none (.node none (.node (some (o_35 P)) (.node none .nil (.node none .nil (.node (some (o_451 P)) .nil .nil))) (.node none .nil (.node none .nil (.node none (.node (some (o_739 P)) .nil .nil) .nil)))) (.node none (.node none .nil (.node none (.node (some (o_339 P)) .nil (.node (some (o_851 P)) .nil .nil)) .nil)) (.node none (.node none (.node (some (o_307 P)) (.node none (.node (some (o_1075 P)) .nil .nil) .nil) (.node (some (o_819 P)) .nil .nil)) (.node (some (o_435 P)) .nil .nil)) (.node (some (o_243 P)) (.node none .nil (.node (some (o_883 P)) .nil .nil)) .nil)))) (.node none (.node (some (o_43 P)) (.node (some (o_75 P)) (.node none (.node none (.node none (.node (some (o_1035 P)) .nil .nil) .nil) .nil) .nil) (.node none .nil (.node (some (o_459 P)) .nil .nil))) (.node none (.node none (.node (some (o_299 P)) .nil .nil) (.node (some (o_427 P)) .nil .nil)) .nil)) (.node none (.node none (.node (some (o_155 P)) .nil (.node none .nil (.node (some (o_923 P)) .nil .nil))) (.node none (.node (some (o_347 P)) .nil .nil) (.node none (.node (some (o_731 P)) .nil .nil) .nil))) (.node none (.node none (.node none (.node (some (o_571 P)) (.node (some (o_1083 P)) .nil .nil) .nil) .nil) (.node none (.node (some (o_699 P)) .nil .nil) (.node (some (o_955 P)) .nil .nil))) .nil))))) (.node none (.node none (.node none (.node none (.node none .nil (.node none (.node (some (o_321 P)) .nil .nil) .nil)) (.node (some (o_97 P)) (.node (some (o_161 P)) .nil .nil) (.node none (.node (some (o_353 P)) .nil .nil) .nil))) (.node none (.node none (.node none (.node none (.node (some (o_529 P)) .nil .nil) .nil) (.node (some (o_401 P)) .nil .nil)) (.node none .nil (.node (some (o_465 P)) .nil (.node (some (o_977 P)) .nil .nil)))) (.node (some (o_113 P)) (.node (some (o_177 P)) .nil .nil) .nil))) (.node none (.node none .nil (.node none (.node (some (o_169 P)) (.node none (.node none (.node (some (o_1065 P)) .nil .nil) .nil) .nil) .nil) (.node none (.node (some (o_361 P)) .nil .nil) .nil))) (.node none (.node (some (o_89 P)) (.node none .nil (.node (some (o_409 P)) .nil (.node (some (o_921 P)) .nil .nil))) .nil) (.node none (.node none (.node (some (o_313 P)) .nil .nil) .nil) (.node none (.node none (.node (some (o_633 P)) .nil .nil) .nil) .nil))))) (.node none (.node none (.node none (.node (some (o_69 P)) (.node none (.node none (.node (some (o_517 P)) .nil .nil) .nil) (.node (some (o_389 P)) .nil (.node (some (o_901 P)) .nil .nil))) (.node none (.node (some (o_325 P)) (.node none (.node (some (o_1093 P)) .nil .nil) .nil) .nil) .nil)) (.node none (.node none (.node (some (o_293 P)) .nil .nil) .nil) .nil)) (.node none (.node none (.node none .nil (.node none (.node (some (o_661 P)) .nil .nil) .nil)) (.node none .nil (.node none (.node (some (o_725 P)) .nil .nil) .nil))) (.node none (.node (some (o_181 P)) .nil .nil) .nil))) (.node (some (o_29 P)) (.node none (.node none (.node none .nil (.node (some (o_397 P)) .nil .nil)) (.node none (.node (some (o_333 P)) .nil (.node (some (o_845 P)) .nil .nil)) (.node none (.node (some (o_717 P)) .nil .nil) .nil))) (.node (some (o_109 P)) (.node none .nil (.node none .nil (.node (some (o_941 P)) .nil .nil))) (.node (some (o_237 P)) .nil .nil))) (.node (some (o_61 P)) (.node none (.node none (.node (some (o_285 P)) .nil .nil) (.node none (.node (some (o_669 P)) .nil .nil) .nil)) .nil) (.node none .nil (.node none (.node (some (o_381 P)) .nil (.node (some (o_893 P)) .nil .nil)) .nil))))))) (.node (some (o_2 P)) (.node (some (o_4 P)) (.node none (.node none (.node none (.node none .nil (.node none (.node (some (o_320 P)) (.node none (.node (some (o_1088 P)) .nil .nil) .nil) .nil) .nil)) (.node (some (o_96 P)) (.node none .nil (.node (some (o_416 P)) .nil .nil)) (.node none .nil (.node (some (o_480 P)) .nil .nil)))) (.node (some (o_48 P)) (.node none (.node none (.node (some (o_272 P)) (.node (some (o_528 P)) .nil .nil) .nil) .nil) (.node none .nil (.node none .nil (.node (some (o_976 P)) .nil .nil)))) (.node none (.node (some (o_176 P)) .nil .nil) (.node none (.node (some (o_368 P)) .nil (.node (some (o_880 P)) .nil .nil)) .nil)))) (.node none (.node none (.node none (.node none .nil (.node none (.node (some (o_648 P)) .nil .nil) .nil)) .nil) (.node (some (o_104 P)) (.node (some (o_168 P)) (.node none (.node none (.node (some (o_1064 P)) .nil .nil) .nil) .nil) .nil) (.node none (.node (some (o_360 P)) (.node (some (o_616 P)) .nil .nil) .nil) .nil))) (.node none (.node (some (o_88 P)) (.node none .nil (.node (some (o_408 P)) .nil (.node (some (o_920 P)) .nil .nil))) (.node none .nil (.node none .nil (.node (some (o_984 P)) .nil .nil)))) (.node none (.node none .nil (.node (some (o_440 P)) .nil .nil)) .nil)))) (.node none (.node none (.node (some (o_36 P)) (.node (some (o_68 P)) (.node none .nil (.node none .nil (.node (some (o_900 P)) .nil .nil))) (.node none (.node none (.node none (.node (some (o_1092 P)) .nil .nil) .nil) .nil) (.node (some (o_452 P)) .nil .nil))) (.node none (.node none (.node (some (o_292 P)) .nil .nil) .nil) .nil)) (.node none (.node none .nil (.node none (.node (some (o_340 P)) .nil (.node (some (o_852 P)) .nil .nil)) (.node none (.node (some (o_724 P)) .nil .nil) .nil))) (.node none (.node none (.node none (.node none (.node (some (o_1076 P)) .nil .nil) .nil) .nil) .nil) .nil))) (.node (some (o_28 P)) (.node none (.node (some (o_76 P)) (.node none (.node none (.node none (.node (some (o_1036 P)) .nil .nil) .nil) .nil) (.node (some (o_396 P)) .nil .nil)) (.node none (.node (some (o_332 P)) .nil (.node (some (o_844 P)) .nil .nil)) .nil)) (.node (some (o_108 P)) (.node none (.node (some (o_300 P)) .nil .nil) (.node (some (o_428 P)) .nil .nil)) .nil)) (.node none (.node none (.node none .nil (.node none (.node (some (o_668 P)) .nil .nil) (.node (some (o_924 P)) .nil .nil))) (.node none .nil (.node none (.node (some (o_732 P)) .nil .nil) .nil))) (.node none (.node none .nil (.node none (.node (some (o_700 P)) .nil .nil) (.node (some (o_956 P)) .nil .nil))) .nil))))) (.node none (.node none (.node none (.node none .nil (.node none (.node (some (o_162 P)) .nil .nil) (.node none (.node (some (o_354 P)) .nil .nil) (.node none (.node (some (o_738 P)) .nil .nil) .nil)))) (.node none (.node none (.node none .nil (.node (some (o_402 P)) .nil .nil)) (.node none .nil (.node (some (o_466 P)) .nil .nil))) (.node (some (o_114 P)) (.node none (.node (some (o_306 P)) .nil (.node (some (o_818 P)) .nil .nil)) (.node (some (o_434 P)) .nil .nil)) (.node (some (o_242 P)) (.node none .nil (.node (some (o_882 P)) .nil .nil)) .nil)))) (.node none (.node (some (o_42 P)) (.node none .nil (.node none .nil (.node (some (o_458 P)) .nil .nil))) .nil) (.node none (.node (some (o_90 P)) .nil (.node none (.node (some (o_346 P)) .nil .nil) .nil)) (.node none (.node none (.node (some (o_314 P)) (.node (some (o_570 P)) (.node (some (o_1082 P)) .nil .nil) .nil) .nil) .nil) (.node none (.node none (.node (some (o_634 P)) .nil .nil) .nil) .nil))))) (.node none (.node (some (o_22 P)) (.node none (.node none (.node none (.node none (.node (some (o_518 P)) .nil .nil) .nil) (.node (some (o_390 P)) .nil .nil)) (.node none (.node (some (o_326 P)) .nil (.node (some (o_838 P)) .nil .nil)) .nil)) (.node none (.node none .nil (.node (some (o_422 P)) .nil .nil)) (.node (some (o_230 P)) .nil (.node (some (o_486 P)) .nil .nil)))) (.node (some (o_54 P)) (.node none (.node none (.node (some (o_278 P)) .nil .nil) (.node none (.node (some (o_662 P)) .nil .nil) .nil)) .nil) (.node none (.node (some (o_182 P)) .nil .nil) (.node none (.node (some (o_374 P)) .nil .nil) .nil)))) (.node none (.node none (.node none (.node none .nil (.node none (.node (some (o_654 P)) .nil .nil) .nil)) (.node none .nil (.node none (.node (some (o_718 P)) .nil .nil) .nil))) (.node none (.node none .nil (.node none .nil (.node (some (o_942 P)) .nil .nil))) (.node (some (o_238 P)) .nil .nil))) (.node (some (o_62 P)) (.node none (.node none (.node (some (o_286 P)) (.node (some (o_542 P)) .nil .nil) .nil) .nil) (.node none .nil (.node none .nil (.node (some (o_990 P)) .nil .nil)))) (.node none (.node none .nil (.node (some (o_446 P)) .nil .nil)) (.node none (.node (some (o_382 P)) .nil (.node (some (o_894 P)) .nil .nil)) .nil))))))))
end
end Mine
end
section
set_option maxRecDepth 100000
open PySem PySem.W PySem.Calls PyProof.Rows
namespace Mine
theorem kt_eq (P : Params) : kt P = X.KT.of ((KK P).filter fun x => !(Nat.beq x.1 1085)) := by kernel_rfl
end Mine
end
section
set_option maxRecDepth 100000
open PySem PySem.W PySem.Calls PyProof.Rows
namespace Mine
noncomputable abbrev PP : Program := PySem.Challenge.pw_pf0282_01
noncomputable section
noncomputable abbrev DD : Code → Sem Fin := Fast.tw11892475500146522536 Fast.tw14364793385576792824
end
theorem DD_eq : DD = denote treeTable := by
  show Fast.tw11892475500146522536 Fast.tw14364793385576792824 = _
  rw [← Fast.te11892475500146522536, ← Fast.te14364793385576792824]
noncomputable def lawAt : Nat := PP.main.body.length - 1
noncomputable def T₀ (P : Params) : BT := mkT (boot_heap P).objs.toList 0 .nil
noncomputable def S₀ (w : World) (os : OsState) : SharedT := ⟨T₀ w.params, (boot_heap w.params).objs.size, (boot_heap w.params).life, #[], boot_drawn, boot_toks, os⟩
theorem open_eq : opening PP = plainProg PP.main.scope.names := by kernel_rfl
theorem fence_eq (s : Shared) : fenceModules? PP s = some s := by rfl
theorem boot_eq (P : Params) : absHeap (T₀ P) (boot_heap P).objs.size (boot_heap P).life = boot_heap P := by kernel_rfl
noncomputable def annAt (P : Params) : Option Value := (boot_heap P).nsMap mainGlobals "__annotations__"
theorem size_eq (P : Params) : ((boot_heap P).isNs mainGlobals && (#[] : Array GenState).size == 0) = true := by kernel_rfl
end Mine
end
section
open PySem PySem.W PySem.Calls PyProof.Rows
set_option maxRecDepth 100000
namespace Mine
noncomputable def lawQ : Program := view PP [lawAt]
noncomputable def lawN : Str := Str.ofString "law"
noncomputable def looseL : List Str := PP.boundNames.filter fun n => !(Fast.sEq n lawN)
noncomputable def KAs : List Addr := [0, 2, 3, 4, 22, 28, 29, 35, 36, 42, 43, 47, 48, 54, 55, 61, 62, 68, 69, 75, 76, 87, 88, 89, 90, 96, 97, 103, 104, 108, 109, 113, 114, 155, 161, 162, 168, 169, 175, 176, 177, 181, 182, 230, 231, 237, 238, 242, 243, 271, 272, 278, 279, 285, 286, 292, 293, 299, 300, 306, 307, 313, 314, 320, 321, 325, 326, 332, 333, 339, 340, 346, 347, 353, 354, 360, 361, 367, 368, 374, 375, 381, 382, 383, 389, 390, 396, 397, 401, 402, 408, 409, 415, 416, 422, 423, 427, 428, 434, 435, 439, 440, 446, 447, 451, 452, 458, 459, 465, 466, 479, 480, 486, 487, 517, 518, 528, 529, 542, 543, 570, 571, 615, 616, 633, 634, 647, 648, 654, 655, 661, 662, 668, 669, 699, 700, 717, 718, 724, 725, 731, 732, 738, 739, 818, 819, 838, 844, 845, 851, 852, 879, 880, 882, 883, 893, 894, 900, 901, 920, 921, 923, 924, 941, 942, 955, 956, 976, 977, 983, 984, 990, 991, 1035, 1036, 1064, 1065, 1075, 1076, 1082, 1083, 1085, 1087, 1088, 1092, 1093]
theorem KAs_eq (P : Params) : KAs = (KK P).map (·.1) := by kernel_rfl
noncomputable def getT (s : SharedT) (a : Addr) : Option Obj := match Nat.blt a s.n with
  | true => match getF s.tree a with
    | some o => alive o
    | none => s.abs.heap.get? a
  | false => none
theorem getT_eq (s : SharedT) (a : Addr) : s.abs.heap.get? a = getT s a := by
  unfold getT
  rw [getF_eq]
  have e0 : Nat.blt a s.n = decide (a < s.n) := by
    cases q : Nat.blt a s.n with
    | true => exact (decide_eq_true (PySem.W.X.blt_true q)).symm
    | false => exact (decide_eq_false (Nat.not_lt.mpr (PySem.W.X.blt_false q))).symm
  by_cases h : a < s.n
  · rw [e0, decide_eq_true h]
    dsimp only
    cases g : s.tree.get a with
    | none => rfl
    | some o => exact abs_get h g
  · rw [e0, decide_eq_false h]
    exact abs_get_none h
noncomputable def obsT (as : List Addr) (s : SharedT) : List (Option Obj) × Nat × Nat := (as.map (getT s), s.n, s.toks)
theorem obsT_eq (as : List Addr) (s : SharedT) : obsT as s = X.obsZ as s.abs := by
  unfold obsT X.obsZ
  have h1 : as.map s.abs.heap.get? = as.map (getT s) := List.map_congr_left fun a _ => getT_eq s a
  have h2 : s.abs.heap.objs.size = s.n := absHeap_size ..
  rw [h1, h2]
  rfl
noncomputable def cF (k : Str) : List Str → Bool
  | [] => false
  | a :: r => match Fast.sEq k a with
    | true => true
    | false => cF k r
theorem cF_eq (k : Str) : ∀ l : List Str, l.contains k = cF k l
  | [] => rfl
  | a :: r => by
    show List.elem k (a :: r) = _
    unfold cF List.elem
    cases h : Fast.sEq k a with
    | true => rw [Fast.sEq_iff.mp h, beq_self_eq_true]
    | false =>
      have : (k == a) = false := by
        cases q : k == a with
        | false => rfl
        | true => rw [Fast.sEq_iff.mpr (eq_of_beq q)] at h; cases h
      rw [this]
      exact cF_eq k r
noncomputable def nbF (h : Heap) : Bool := h.isNs mainGlobals && (h.nsKeys mainGlobals).all fun k => cF k startupNames || cF k (Fast.tw18344453789297297638 PP)
theorem nbF_eq (h : Heap) : namesBound PP h = nbF h := by
  unfold namesBound nbF
  rw [Fast.te18344453789297297638]
  simp only [cF_eq]
noncomputable def rowT : String := "special-get-raises"
abbrev OutT : Type := Option (SharedT × List (Sem Fin × Sem Fin))
abbrev RestT : Type := BT → Nat → Nat → Life → Array GenState → Drawn → OsState → OutT
abbrev UTy : Type := Sem Fin → Code → Pos → List Frame → RestT
section
variable (w : World) (n₀ : Nat) (ann : Option Value) (ih : UTy)
noncomputable def genU (cur : Sem Fin) (code : Code) (pos : Pos) (st : List Frame) : RestT := fun T n toks life gens drawn os =>
  match Fast.tw10156331382660048174 DD PP w ⟨T, n, life, gens, drawn, toks, os⟩ ⟨cur, code, pos, st⟩ with
  | some r => match r with
    | (s', t') => ih t'.cur t'.code t'.pos t'.stack s'.tree s'.n s'.toks s'.life s'.gens s'.drawn s'.os
  | none => none
noncomputable def pureU (f : Fin) (code : Code) (pos : Pos) (st : List Frame) : RestT := match f with
  | .again c => genU w ih (.pure (.again c)) code pos st
  | .done f => match st with
    | [] => fun T n toks life gens drawn os => some (⟨T, n, life, gens, drawn, toks, os⟩, [])
    | x :: r => genU w ih (.pure (.done f)) code pos (x :: r)
noncomputable def loadU (a : Addr) (k : Obj → Sem Fin) (code : Code) (pos : Pos) (st : List Frame) : RestT := fun T n toks life gens drawn os =>
  @Bool.rec (fun _ => OutT) none (@Option.rec Obj (fun _ => OutT) none (fun o => @Option.rec Obj (fun _ => OutT) none (fun o' => ih (k o') code pos st T n toks life gens drawn os) (alive o)) (getF T a)) (Nat.blt a n)
noncomputable def updU (a : Addr) (f : Obj → Obj) (k : Unit → Sem Fin) (code : Code) (pos : Pos) (st : List Frame) : RestT := fun T n toks life gens drawn os =>
  @Bool.rec (fun _ => OutT) none (@Option.rec Obj (fun _ => OutT) none (fun o => @Option.rec Obj (fun _ => OutT) none (fun _ => ih (k ()) code pos st (setF T a f) n toks life gens drawn os) (alive o)) (getF T a)) (Nat.blt a n)
noncomputable def allocU (o : Obj) (k : Addr → Sem Fin) (code : Code) (pos : Pos) (st : List Frame) : RestT := fun T n toks life gens drawn os =>
  @Option.rec Obj (fun _ => OutT) none (fun _ => ih (k n) code pos st (insF T n o) (Nat.succ n) toks life gens drawn os) (getF (insF T n o) n)
noncomputable def noU : UTy := fun _ _ _ _ _ _ _ _ _ _ _ => none
end
abbrev GoTy : Type := World → Nat → Option Value → UTy → Code → Pos → List Frame → RestT
noncomputable def noG : GoTy := fun _ _ _ _ _ _ _ _ _ _ _ _ _ _ => none
noncomputable def goR (t : Sem Fin) : GoTy := @Sem.rec Fin (fun _ => GoTy)
  (fun f w n₀ ann ih code pos st => @Bool.rec (fun _ => RestT) (noU (.raise .none) code pos st) (pureU w ih f code pos st) (Fast.tw6613529449190102663 n₀ ann ⟨.pure f, code, pos, st⟩)) (fun _ => noG) (fun _ => noG) (fun _ => noG)
  (fun _ k _ _ _ _ ih => ih (k ())) (fun p k _ _ _ _ ih code _ => ih (k ()) code p) (fun a _ k _ _ _ _ ih => loadU ih a k)
  (fun a l f k _ _ n₀ ann ih code pos st => @Bool.rec (fun _ => RestT) (noU (.raise .none) code pos st) (updU ih a f k code pos st) (Fast.tw6613529449190102663 n₀ ann ⟨.update a l f k, code, pos, st⟩)) (fun x k _ _ _ _ ih => allocU ih x k)
  (fun _ _ _ => noG) (fun _ k _ _ _ _ ih => ih (k ())) (fun _ _ _ => noG) (fun k _ _ _ _ ih code pos st T n toks => ih (k toks) code pos st T n (Nat.succ toks)) (fun k _ w _ _ ih => ih (k ⟨PP, w.params⟩))
  (fun _ _ _ _ => noG) (fun _ _ _ _ => noG) (fun c' hd gd l k _ w _ _ ih => genU w ih (.call c' hd gd l k)) (fun _ _ _ => noG)
  (fun _ _ _ => noG) (fun _ _ _ => noG) (fun _ _ _ _ _ => noG) (fun _ _ _ _ _ => noG)
  (fun k _ w _ _ ih => genU w ih (.stack k)) (fun _ _ _ => noG) (fun _ _ => noG) (fun _ _ _ _ _ _ => noG) t
section
variable (w : World) (n₀ : Nat) (ann : Option Value) (ih : UTy)
noncomputable def goU (t : Sem Fin) : Code → Pos → List Frame → RestT := goR t w n₀ ann ih
noncomputable def forkU (cur : Sem Fin) (code : Code) (pos : Pos) (st : List Frame) : RestT := fun T n toks life gens drawn os =>
  match Fast.tw6613529449190102663 n₀ ann ⟨cur, code, pos, st⟩ with
  | false => none
  | true => match cur with
    | .ask k => match ih (k ⟨PP, (w.withFollow rowT true).params⟩) code pos st T n toks life gens drawn os with
      | some r => match r with
        | (s', ob) => some (s', (k ⟨PP, (w.withFollow rowT true).params⟩, k ⟨PP, (w.withFollow rowT false).params⟩) :: ob)
      | none => none
    | _ => none
noncomputable def runU (n : Nat) : UTy := @Nat.rec (fun _ => UTy) ih (fun _ ih => goU w n₀ ann ih) n
noncomputable def allU : List Nat → Nat → UTy
  | [], n => runU w n₀ ann noU n
  | a :: l, n => runU w n₀ ann (forkU w n₀ ann (allU l n)) a
end
noncomputable def needT : List Nat → Nat → Nat
  | [], n => n + 0
  | a :: l, n => a + (needT l n + 1)
noncomputable def GoodU (w : World) (n₀ : Nat) (ann : Option Value) (N : Nat) (F : UTy) : Prop := ∀ cur code pos st T n toks life gens drawn os s' ob, F cur code pos st T n toks life gens drawn os = some (s', ob) →
  (ob.map fun x => x.1) = (ob.map fun x => x.2) → topRun treeTable PP w n₀ ann N (SharedT.mk T n life gens drawn toks os).abs ⟨cur, code, pos, st⟩ = some s'.abs
section
variable {w : World} {n₀ : Nat} {ann : Option Value} {ih : UTy} {N : Nat}
theorem gen_of {cur : Sem Fin} {code : Code} {pos : Pos} {st : List Frame} {T : BT} {n toks : Nat} {life : Life} {gens : Array GenState} {drawn : Drawn} {os : OsState} {r : SharedT × List (Sem Fin × Sem Fin)}
    (e : genU w ih cur code pos st T n toks life gens drawn os = some r) : ∃ s2 t2, stepT (denote treeTable) PP w ⟨T, n, life, gens, drawn, toks, os⟩ ⟨cur, code, pos, st⟩ = some (s2, t2) ∧
      ih t2.cur t2.code t2.pos t2.stack s2.tree s2.n s2.toks s2.life s2.gens s2.drawn s2.os = some r := by
  unfold genU at e
  rw [← Fast.te10156331382660048174, DD_eq] at e
  cases hs : stepT (denote treeTable) PP w ⟨T, n, life, gens, drawn, toks, os⟩ ⟨cur, code, pos, st⟩ with
  | none => rw [hs] at e; cases e
  | some x => obtain ⟨s2, t2⟩ := x; rw [hs] at e; exact ⟨s2, t2, rfl, e⟩
theorem goU_good (h : GoodU w n₀ ann N ih) : GoodU w n₀ ann (N + 1) (goU w n₀ ann ih) := by
  intro cur code pos st T n toks life gens drawn os s' ob e ho
  have key : ∀ s2 t2, stepT (denote treeTable) PP w ⟨T, n, life, gens, drawn, toks, os⟩ ⟨cur, code, pos, st⟩ = some (s2, t2) → through ⟨cur, code, pos, st⟩ = false → stepOk n₀ ann ⟨cur, code, pos, st⟩ = true →
      ih t2.cur t2.code t2.pos t2.stack s2.tree s2.n s2.toks s2.life s2.gens s2.drawn s2.os = some (s', ob) →
      topRun treeTable PP w n₀ ann (N + 1) (SharedT.mk T n life gens drawn toks os).abs ⟨cur, code, pos, st⟩ = some s'.abs := by
    intro s2 t2 hs ht hk hi
    unfold topRun
    rw [ht, hk]
    dsimp only
    rw [stepT_spec hs]
    exact h _ _ _ _ _ _ _ _ _ _ _ _ _ hi ho
  cases cur with
  | load a l k =>
    replace e : loadU ih a k code pos st T n toks life gens drawn os = some (s', ob) := e
    unfold loadU at e
    rw [getF_eq] at e
    cases hb : Nat.blt a n with
    | false => rw [hb] at e; cases e
    | true =>
      rw [hb] at e
      cases hg : T.get a with
      | none => rw [hg] at e; cases e
      | some o =>
        rw [hg] at e
        dsimp only at e
        cases ha : alive o with
        | none => rw [ha] at e; cases e
        | some o' =>
          rw [ha] at e
          exact key _ _ (by unfold stepT; dsimp only; rw [hb]; dsimp only; rw [hg]; dsimp only; rw [ha]) (Bool.and_false _) rfl e
  | update a l f k =>
    replace e : @Bool.rec (fun _ => RestT) (noU (.raise .none) code pos st) (updU ih a f k code pos st) (Fast.tw6613529449190102663 n₀ ann ⟨.update a l f k, code, pos, st⟩) T n toks life gens drawn os = some (s', ob) := e
    rw [← Fast.te6613529449190102663] at e
    cases hk : stepOk n₀ ann ⟨.update a l f k, code, pos, st⟩ with
    | false => rw [hk] at e; cases e
    | true =>
    rw [hk] at e
    replace e : updU ih a f k code pos st T n toks life gens drawn os = some (s', ob) := e
    unfold updU at e
    rw [getF_eq, setF_eq] at e
    cases hb : Nat.blt a n with
    | false => rw [hb] at e; cases e
    | true =>
      rw [hb] at e
      cases hg : T.get a with
      | none => rw [hg] at e; cases e
      | some o =>
        rw [hg] at e
        dsimp only at e
        cases ha : alive o with
        | none => rw [ha] at e; cases e
        | some o' =>
          rw [ha] at e
          exact key _ _ (by unfold stepT; dsimp only; rw [hb]; dsimp only; rw [hg]; dsimp only; rw [ha]) (Bool.and_false _) hk e
  | alloc o k =>
    replace e : allocU ih o k code pos st T n toks life gens drawn os = some (s', ob) := e
    unfold allocU at e
    rw [getF_eq, insF_eq] at e
    cases hg : (T.ins n o).get n with
    | none => rw [hg] at e; cases e
    | some x =>
      rw [hg] at e
      exact key _ _ (by unfold stepT; dsimp only; rw [hg]; rfl) (Bool.and_false _) rfl e
  | rule _ k => exact key _ _ rfl (Bool.and_false _) rfl e
  | «at» p k => exact key _ _ rfl (Bool.and_false _) rfl e
  | point _ k => exact key _ _ rfl (Bool.and_false _) rfl e
  | fresh k => exact key _ _ rfl (Bool.and_false _) rfl e
  | ask k => exact key _ _ rfl (Bool.and_false _) rfl e
  | call c' hd gd l k => obtain ⟨_, _, hs, hi⟩ := gen_of (cur := .call c' hd gd l k) e; exact key _ _ hs (Bool.and_false _) rfl hi
  | stack k => obtain ⟨_, _, hs, hi⟩ := gen_of (cur := .stack k) e; exact key _ _ hs (Bool.and_false _) rfl hi
  | pure f =>
    replace e : @Bool.rec (fun _ => RestT) (noU (.raise .none) code pos st) (pureU w ih f code pos st) (Fast.tw6613529449190102663 n₀ ann ⟨.pure f, code, pos, st⟩) T n toks life gens drawn os = some (s', ob) := e
    rw [← Fast.te6613529449190102663] at e
    cases hk : stepOk n₀ ann ⟨.pure f, code, pos, st⟩ with
    | false => rw [hk] at e; cases e
    | true =>
    rw [hk] at e
    replace e : pureU w ih f code pos st T n toks life gens drawn os = some (s', ob) := e
    cases f with
    | again c => obtain ⟨_, _, hs, hi⟩ := gen_of (cur := .pure (.again c)) e; exact key _ _ hs (Bool.and_false _) hk hi
    | done f => cases st with
      | nil =>
        cases e
        rfl
      | cons x r => obtain ⟨_, _, hs, hi⟩ := gen_of (cur := .pure (.done f)) e; exact key _ _ hs rfl hk hi
  | _ => cases e
theorem forkU_good (h : GoodU w n₀ ann N ih) : GoodU w n₀ ann (N + 1) (forkU w n₀ ann ih) := by
  intro cur code pos st T n toks life gens drawn os s' ob e ho
  unfold forkU at e
  rw [← Fast.te6613529449190102663] at e
  cases hk : stepOk n₀ ann ⟨cur, code, pos, st⟩ with
  | false => rw [hk] at e; cases e
  | true =>
    rw [hk] at e
    cases cur with
    | ask k =>
      dsimp only at e
      cases hr : ih (k ⟨PP, (w.withFollow rowT true).params⟩) code pos st T n toks life gens drawn os with
      | none => rw [hr] at e; cases e
      | some r =>
        obtain ⟨s2, ob2⟩ := r
        rw [hr] at e
        cases e
        rw [List.map_cons, List.map_cons] at ho
        obtain ⟨h1, h2⟩ := List.cons.inj ho
        have g := h _ _ _ _ _ _ _ _ _ _ _ _ _ hr h2
        unfold topRun
        rw [show through ⟨Sem.ask k, code, pos, st⟩ = false from Bool.and_false _, hk]
        show topRun treeTable PP w n₀ ann N _ ⟨k ⟨PP, w.params⟩, code, pos, st⟩ = _
        have q : w.withFollow rowT (w.params.followText rowT) = w := World.withFollow_self w _
        cases hf : w.params.followText rowT with
        | true => rw [hf] at q; rw [q] at g; exact g
        | false =>
          rw [hf] at q
          replace h1 : k ⟨PP, (w.withFollow rowT true).params⟩ = k ⟨PP, (w.withFollow rowT false).params⟩ := h1
          rw [h1, q] at g
          exact g
    | _ => cases e
theorem runU_good (h : GoodU w n₀ ann N ih) : ∀ a, GoodU w n₀ ann (a + N) (runU w n₀ ann ih a)
  | 0 => by rw [Nat.zero_add]; exact h
  | a + 1 => by rw [show a + 1 + N = a + N + 1 by omega]; exact goU_good (runU_good h a)
theorem noU_good : GoodU w n₀ ann N noU := fun _ _ _ _ _ _ _ _ _ _ _ _ _ e => by cases e
theorem allU_good : ∀ (l : List Nat) (n : Nat), GoodU w n₀ ann (needT l n) (allU w n₀ ann l n)
  | [], n => runU_good noU_good n
  | a :: l, n => runU_good (forkU_good (allU_good l n)) a
end
noncomputable def forksT : List Nat := [1404, 11, 11, 11, 11, 11, 11, 11, 11]
noncomputable def runF (w : World) (os : OsState) : OutT := match topStub PP with
  | ⟨cur, code, pos, st⟩ => allU w (boot_heap w.params).objs.size (annAt w.params) forksT 6499 cur code pos st (T₀ w.params) (boot_heap w.params).objs.size boot_toks (boot_heap w.params).life #[] boot_drawn os
theorem runF_of {w : World} {os : OsState} {s' : SharedT} {ob : List (Sem Fin × Sem Fin)} (e : runF w os = some (s', ob)) (ho : (ob.map fun x => x.1) = (ob.map fun x => x.2)) :
    topRun treeTable PP w (boot_heap w.params).objs.size (annAt w.params) (needT forksT 6499) (S₀ w os).abs (topStub PP) = some s'.abs := allU_good forksT 6499 _ _ _ _ _ _ _ _ _ _ _ _ _ e ho
noncomputable def seesL (w : World) (r : OutT) := match r with
  | some (s, ob) => some (((staticsOk (importedModules PP.main.body) (boot_heap w.params) s.abs.heap && nbF s.abs.heap && gensDone s.abs && laidKept (boot_heap w.params) s.abs.heap),
   Fast.tw4187177175401517315 lawQ looseL (importedModules PP.main.body) (fun _ => true) true s.abs, obsT KAs s), ob.map fun (x : Sem Fin × Sem Fin) => x.1)
  | none => none
noncomputable def seesR (w : World) (r : OutT) := match r with
  | some (_, ob) => some ((true, openGood lawQ looseL, X.valZ KK 1094 1837 w), ob.map fun (x : Sem Fin × Sem Fin) => x.2)
  | none => some ((true, openGood lawQ looseL, X.valZ KK 1094 1837 w), [])
end Mine
end
section
open PySem PySem.W PySem.Calls PyProof.Rows
set_option maxRecDepth 100000
namespace Mine
theorem top_ok (w : World) (os : OsState) : seesL w (runF w os) = seesR w (runF w os) := by kernel_rfl
end Mine
end
section
open PySem PySem.W PySem.Calls PyProof.Rows
set_option maxRecDepth 100000

namespace Mine
theorem openEnds_of {w : World} {N : Nat} {s₀ s : Shared} (e : fencedOpening treeTable PP w N = some s₀) (hf : topFrom treeTable PP w N s₀ = some s) : openEnds treeTable PP w N = some s := by
  unfold openEnds
  rw [e, Option.bind_some, hf]
theorem left_of (top : ∀ w os, seesL w (runF w os) = seesR w (runF w os)) : LeftO PP lawQ looseL (fun _ => true) (X.obsZ KAs) (X.valZ KK 1094 1837) 8000 true := fun w => by
  obtain ⟨⟨h, gs, d, k, os⟩, e, e'⟩ := Option.map_eq_some_iff.mp (boot_open (p := PP) (N := 8000) open_eq (by decide +kernel) fence_eq w)
  obtain ⟨rfl, rfl, rfl, rfl⟩ : h = boot_heap w.params ∧ gs = Array.mk [] ∧ d = boot_drawn ∧ k = boot_toks := by simpa using e'
  have t := top w os
  cases hS : runF w os with
  | none => rw [hS] at t; cases t
  | some y =>
  obtain ⟨S, ob⟩ := y
  rw [hS] at t
  unfold seesL seesR at t
  obtain ⟨⟨l1, l2, l3⟩, l4⟩ : (_ ∧ _ ∧ _) ∧ _ := by simpa only [Option.some.injEq, Prod.mk.injEq] using t
  have r := runF_of hS l4
  have es : (S₀ w os).abs = ⟨boot_heap w.params, Array.mk [], boot_drawn, boot_toks, os⟩ := by
    show Shared.mk (absHeap _ _ _) _ _ _ _ = _
    rw [show (S₀ w os).tree = T₀ w.params from rfl, show (S₀ w os).n = (boot_heap w.params).objs.size from rfl, show (S₀ w os).life = (boot_heap w.params).life from rfl, boot_eq]
    rfl
  rw [show needT forksT 6499 = 8000 by decide +kernel, es] at r
  rw [obsT_eq] at l3
  rw [← nbF_eq] at l1
  rw [← Fast.te4187177175401517315] at l2
  have hf : topFrom treeTable PP w 8000 ⟨boot_heap w.params, Array.mk [], boot_drawn, boot_toks, os⟩ = some S.abs := by
    unfold topFrom
    dsimp only
    rw [show ((boot_heap w.params).isNs mainGlobals && (Array.mk [] : Array GenState).size == 0) = true from size_eq w.params]
    dsimp only
    rw [show (boot_heap w.params).nsMap mainGlobals (Str.ofString "__annotations__") = annAt w.params from rfl, r]
    show (match staticsOk (importedModules PP.main.body) (boot_heap w.params) S.abs.heap && namesBound PP S.abs.heap && gensDone S.abs && laidKept (boot_heap w.params) S.abs.heap with | true => _ | false => _) = _
    rw [l1]
  rw [openEnds_of e hf, Option.map_some, l2, l3]
end Mine
end
section
open PySem PySem.W PySem.Calls PyProof.Rows
open PySem.Sem (wp)
set_option maxRecDepth 100000
namespace Mine
noncomputable def Γc : Ctx := ⟨.builtin "claim.caller" {}, none, none, [], none⟩
structure Left (P : Params) (s s' : Shared) : Prop where
  kept : ∀ b o, b ≠ 1085 → s.heap.get? b = some o → s'.heap.get? b = some o
  table : ∃ vs more, o_1085 P = ⟨.none, none, .fields vs, #[]⟩ ∧ s'.heap.get? 1085 = some ⟨.none, none, .fields (vs ++ more), #[]⟩
  gens : s'.gens = #[]
  os : s'.os = s.os
noncomputable def LawHolds (w : World) : Prop := ∀ (s : Shared) (its : Array Value), s.heap.objs.size = 1095 → X.AllIn s.heap (KK w.params) → s.heap.get? 1094 = some ⟨.type "list", none, .seq its 0, #[]⟩ →
  (∀ v ∈ its, ∃ i t, v = .int i t) → 1837 ≤ s.toks → s.gens = #[] →
  wp (model PP w) Γc (callStub lawN [.ref 1094]).cur (Sem.finPost (model PP w) Γc (fun r s' => r = .ok (.ret (.bool true)) ∧ Left w.params s s')) (fun _ _ _ => False) default s

noncomputable abbrev RR : OpenRow := PySem.Challenge.rw_pf0282_01.row
theorem items_ints {R : WRecords} : ∀ {xs : List WData}, WShape.hasItems R xs .int = true → ∃ ns : List Int, xs = ns.map .int
  | [], _ => ⟨[], rfl⟩
  | x :: xs, h => by
    have h' : WShape.has R x .int = true ∧ WShape.hasItems R xs .int = true := by simpa [WShape.hasItems] using h
    obtain ⟨i, rfl⟩ := hasW_int h'.1
    obtain ⟨ns, rfl⟩ := items_ints h'.2
    exact ⟨i :: ns, rfl⟩

theorem reads_ints {R : WRecords} {cl : Str → Option Addr} {h : Heap} : ∀ {vs : List Value} {ns : List Int} {as : List Addr}, ReadsAllW R cl h vs (ns.map .int) as → ∀ v ∈ vs, ∃ i t, v = .int i t
  | [], _, _, _ => fun _ q => (nomatch q)
  | v :: vs, [], _, r => by cases r
  | v :: vs, n :: ns, as, r => by
    cases r with
    | cons a b =>
      intro x hx
      rcases List.mem_cons.mp hx with rfl | hx
      · cases a; exact ⟨_, _, rfl⟩
      · exact reads_ints b x hx

theorem allIn_get {h : Heap} : ∀ {K : Frag} {a : Addr} {o : Obj}, X.AllIn h K → K.lookup a = some o → h.get? a = some o
  | [], _, _, _, e => nomatch e
  | p :: K, a, o, A, e => by
    obtain ⟨b, x⟩ := p
    rw [List.lookup_cons] at e
    cases q : a == b with
    | true => rw [q] at e; cases e; rw [eq_of_beq q]; exact A.1
    | false => rw [q] at e; exact allIn_get A.2 e
theorem codeTable_of {s : Shared} {P : Params} (K : X.AllIn s.heap (KK P)) : ∃ vs, o_1085 P = ⟨.none, none, .fields vs, #[]⟩ ∧ s.heap.get? 1085 = some (o_1085 P) ∧ isCodeTable s.heap 1085 := by
  have h1 := allIn_get K (a := 1085) (o := o_1085 P) (by kernel_rfl)
  have h2 := allIn_get K (a := 1087) (o := o_1087 P) (by kernel_rfl)
  exact ⟨_, rfl, h1, 1087, o_1087 P, _, h2, rfl, rfl, rfl⟩

theorem allIn_keeps {h h' : Heap} (k : ∀ b o, h.get? b = some o → h'.get? b = some o) : ∀ {K : Frag}, X.AllIn h K → X.AllIn h' K
  | [], _ => trivial
  | _ :: _, A => ⟨k _ _ A.1, allIn_keeps k A.2⟩
theorem postT (xs : List WData) : RR.claim.post xs (WData.bool true) xs = true := by
  show (WShape.has [] (WData.bool true) .bool && (WTm.eq .res (.lit (.bool true))).holds [] { args := xs, res := some (WData.bool true), after := xs }) = true
  have h1 : WShape.has [] (WData.bool true) .bool = true := by decide +kernel
  have h2 : (WTm.eq .res (.lit (.bool true))).holds [] { args := xs, res := some (WData.bool true), after := xs } = true := by
    unfold WTm.holds
    simp only [WTm.value]
    decide +kernel
  rw [h1, h2]; rfl
theorem left_good {w : World} {cl : Str → Option Addr} {mean : ExcName → Option Value} {ns : List Int} {s s' : Shared} (K : X.AllIn s.heap (KK w.params)) (E : Left w.params s s') :
    GoodWG RR.claim cl mean [WData.list (ns.map .int)] s (.ok (.ret (.bool true))) s' := by
  obtain ⟨vs, o1, g1, ct⟩ := codeTable_of K
  obtain ⟨vs', more, o2, g2⟩ := E.table
  have ev : vs' = vs := by rw [o1] at o2; cases o2; rfl
  subst ev
  refine ⟨.inl ⟨.bool true, .bool true, [], rfl, fun _ => rfl, ReadsW.bool true, postT _, fun _ => ⟨List.nodup_nil, fun _ hm => (nomatch hm)⟩⟩, ⟨fun b o e => ?_, fun b o e => ?_⟩, E.os, by rw [E.gens]; exact AllBare.empty⟩
  · by_cases q : b = 1085
    · subst q
      rw [g1] at e
      cases e
      exact .inr (.inl ⟨ct, by rw [o1], vs', more, by rw [o1], by rw [g2, o1]⟩)
    · exact .inl (E.kept b o q e)
  · by_cases q : b = 1085
    · subst q; exact ⟨_, g2⟩
    · exact ⟨o, E.kept b o q e⟩
noncomputable def holdsF : TablesWhole.Alg Bool := ⟨fun sc n _ => Fast.tw15985051520779696433 sc n, fun _ _ _ ok => ok, fun _ => true, true, false, fun a b => a && b⟩
theorem holds_eq : TablesWhole.holds = holdsF := by
  unfold TablesWhole.holds
  rw [Fast.te15985051520779696433]; rfl
theorem whole : PP.tablesWhole = true := by
  have h : TablesWhole.wModule TablesWhole.holds PP.main = true := by
    rw [Fast.te6116379765354995101, holds_eq]; decide +kernel
  unfold Program.tablesWhole TablesWhole.wProgram
  show TablesWhole.holds.all [TablesWhole.wModule TablesWhole.holds PP.main, _, _, _] = true
  rw [h]
  decide +kernel
theorem finish (law : ∀ w, LawHolds w) (left : LeftO PP lawQ looseL (fun _ => true) (X.obsZ KAs) (X.valZ KK 1094 1837) 8000 true) (said : RR.wellSaid = true) (hw : RR.toRowW.promised) : RR.Holds := by
  refine ⟨said, hw, ?_⟩
  have ok : (chainsOk lawQ && opensWell RR.prog && (frees RR.toRowW && RR.within.isEmpty)) = true := by decide +kernel
  obtain ⟨ok, k5⟩ := Bool.and_eq_true_iff.mp ok
  obtain ⟨hch, o1⟩ := Bool.and_eq_true_iff.mp ok
  obtain ⟨k5, k6⟩ := Bool.and_eq_true_iff.mp k5
  obtain ⟨hsame, hu, ha, hap, hm⟩ := frees_parts k5
  have hwi : RR.claim.within = [] := List.isEmpty_iff.mp k6
  have hi := ident_freeW hu ha hap
  refine ⟨⟨⟨rfl, rfl, rfl, rfl, rfl, whole⟩, o1, rfl⟩, hw.witness, fun w => ⟨(left.behind (XP := fun _ _ => True) (fun _ _ => trivial) hch w).1, fun s' hs' => ?_⟩⟩
  obtain ⟨s₀, hf, hg0, s, hT, hz, hgens, hg, G, y⟩ := (left.behind (XP := fun _ _ => True) (fun _ _ => trivial) hch w).2 s' hs'
  have hgens : s.gens = #[] := Array.eq_empty_of_size_eq_zero (beq_iff_eq.mp hgens)
  obtain ⟨KA, _, hsz, htk⟩ := X.z_facts (K := KK) KAs_eq y
  refine ⟨s₀, hf, hg0, s, hT, fun n hn => ?_, (fun x hx => (nomatch hx)), (fun x hx => (nomatch hx)), ?_⟩
  · obtain rfl : n = RR.name := by split at hn <;> simp_all
    exact pinned_of_view (q := lawQ) hg G (by rfl) (by rfl) (by rfl)
  intro args hpre hlay ord hord
  obtain ⟨d, r, rfl, hd, hr⟩ := hasAllW_cons (pre_splitW hpre).1
  have := hasAllW_nil hr
  subst this
  obtain ⟨xs, rfl, hx⟩ := hasW_list hd
  obtain ⟨ns, rfl⟩ := items_ints hx
  obtain ⟨⟨vs, s₁⟩, hlaid⟩ := Option.isSome_iff_exists.mp (layAllW_isSome (P := w.params) (ord := ord) G.has _ RR.args s (pre_splitW hpre).1)
  have keeps := layAllW_keeps _ _ _ hlaid
  have hal := layAllW_rest _ _ _ hlaid
  obtain ⟨as, hrd, hin, hold⟩ := reads_layAllW hord _ _ _ hlaid hlay s₁.heap (fun _ _ e => e)
  have L : Laid RR.records w s s₁ [WData.list (ns.map .int)] vs as := ⟨⟨ord, hord, hlaid⟩, hrd, hin, hold, keeps, hal.1.trans hgens, hal.2.2.1⟩
  cases hrd with
  | cons h1 h2 =>
    cases h2
    cases h1 with
    | list e1 e2 e3 e4 =>
      rename_i a o its n xs'
      have L' : Laid RR.records w s s₁ [ofPy (PyData.list (ns.map PyData.int))] [.ref a] (a :: xs' ++ []) := by
        have : ofPy (PyData.list (ns.map PyData.int)) = WData.list (ns.map .int) := by simp [ofPy, ofPys_ints]
        rw [this]; exact L
      obtain ⟨rfl, hs1⟩ := X.script_at L'
      have ho := X.script_obj L' (its := its) ⟨o, e1, e2, n, e3⟩
      have htk1 := X.script_toks L' htk
      rw [hsz] at hs1 ho
      have KA₁ : X.AllIn s₁.heap (KK w.params) := allIn_keeps keeps KA
      have lw := law w s₁ its hs1 KA₁ ho (fun v hv => reads_ints e4 v (by simpa using hv)) htk1 L.gens
      rw [show callStub lawN [.ref 1094] = callStub RR.name [.ref s.heap.objs.size] by rw [hsz]; rfl] at lw
      obtain ⟨k, r, s₃, s₂, hsched, hrun, hfo, hR, E⟩ := wp_halts_full (M := model PP w) (c := .builtin "claim.caller" {}) (t := (callStub RR.name [.ref s.heap.objs.size]).cur) (p := default) (s := s₁) (Shared.asleep_of_life hal.2.2.2 hz)
        (R := fun r s' => r = .ok (.ret (.bool true)) ∧ Left w.params s₁ s')
        (Sem.wp_mono _ _ _ (fun fin p' s' h => by
          cases fin with
          | done f => exact ⟨h, by rw [h.2.gens]; exact leftWithCleanup_false_of_bare AllBare.empty⟩
          | again c =>
            obtain ⟨hq, r, s'', hr, h⟩ := h
            exact ⟨hq, r, s'', hr, h, by rw [h.2.gens]; exact leftWithCleanup_false_of_bare AllBare.empty⟩) (fun _ _ _ h => h.elim) _ _ lw)
      subst hR
      obtain ⟨eh, _, _, eo, _⟩ := Shared.forget_eq hfo
      have g := left_good (cl := classAt s.heap) (mean := ExcName.means s.heap) (ns := ns) KA₁ E
      obtain ⟨hcase, hos, _⟩ := g.laid (c := RR.claim) hsame hwi hi L
      have hcase := hcase.congr eh
      rw [← eo] at hos
      have hlife : s₂.heap.life = s.heap.life := (runN_life _ _ _ hrun).trans hal.2.2.2
      refine ⟨_, s₁, hlaid, k, _, s₂, hsched, ?_, (fun _ i x hx => by rw [hgens] at hx; simp at hx), (fun q => nomatch q), by rw [hlife], Shared.rest_eq hos⟩
      rcases hcase with ⟨v, e, d1, d2, d3, d4, d5⟩ | ⟨e, ob, cls, er, d1, d2, d3, d4, d5⟩
      · cases e
        exact .inl ⟨_, rfl, d1, d2, d3, fun b o y _ => d4 b o y, d5⟩
      · cases er
end Mine
end
section
set_option maxRecDepth 100000
set_option Elab.async false
open PySem PySem.W PySem.Calls PyProof.Rows
namespace Mine
noncomputable abbrev LW : OpenLaw := PySem.Challenge.rw_pf0282_01
theorem lo1 : sreFenced LW.prog.main = true := by decide +kernel
theorem lo2 : ((moduleNames LW.prog.main.body).isEmpty || lookedIntoSs (moduleNames LW.prog.main.body) LW.prog.main.body) = true := by decide +kernel
theorem lo3 : namesResolve LW.prog = true := by rw [Fast.te8377067652309620493]; decide +kernel
theorem lo4 : LW.prog.boundNames.all (fun n => !worldNames.contains n) = true := by decide +kernel
theorem lo5a : (["vars", "dir", "locals"] : List Str).filter (readsOut LW.prog LW.prog.main.body) = [] := by
  unfold readsOut
  rw [Fast.te17119622794617984870]
  decide +kernel
theorem lo5 : noRoadLSs { strict := !(importedModules LW.prog.main.body).all cThrough.contains, foot := none, bare := (["vars", "dir", "locals"] : List Str).filter (readsOut LW.prog LW.prog.main.body) } LW.prog.main.body = true := by
  rw [lo5a, Fast.te8326940854005059898]
  decide +kernel
theorem lo6 : (namesMeet LW.prog LW.prog.main.body fun _ n => attrL n) = true := by rw [Fast.te17119622794617984870, Fast.te17868728402115742887]; decide +kernel
theorem lo : looksOpen LW.prog = true := by
  unfold looksOpen
  exact look_both (look_both (look_both (look_both (look_both lo1 lo2) lo3) lo4) lo5) lo6
set_option maxHeartbeats 4000000 in
theorem ws0 : RR.wellSaid = true := by
  have h : looksOpen RR.prog = true := lo
  have p : (RR.partSaid) = true := by
    unfold OpenRow.partSaid
    rw [h]
    decide +kernel
  unfold OpenRow.wellSaid
  rw [p]
  decide +kernel
theorem ws1 : (decide (LW.foot ≤ (behindTheImports LW.prog).length)) = true := by decide +kernel
theorem ws2 : (LW.footing.all footLine) = true := by decide +kernel
theorem ws3 : (noClassBlock LW.prog LW.footing) = true := by decide +kernel
theorem ws4 : (LW.most.all (fun n => decide (63 ≤ n))) = true := by decide +kernel
theorem ws5 : (LW.bound.all (fun n => decide (2 ^ 63 ≤ n))) = true := by decide +kernel
theorem ws6 : (noRoadLSs { strict := true, foot := some LW.bound', writes := LW.writes, may := LW.may } LW.footing) = true := by rw [Fast.te8326940854005059898]; decide +kernel
theorem ws7 : (defStands LW.about LW.above) = true := by decide +kernel
theorem ws8 : (LW.namesIt) = true := by decide +kernel
theorem ws9 : ((["type", "isinstance", "issubclass", "getattr", "hasattr"] : List Str).all (fun n => LW.about != [n])) = true := by decide +kernel
theorem ws10 : (LW.bound'.all (fun n => !builtinNamed n || LW.about == [n] || !LW.reads n)) = true := by rw [Fast.named_eq, Fast.te6984425678791042302]; decide +kernel
theorem ws11 : ((!LW.writes || (LW.prog.main.body.flatMap importedNames).all fun n => !LW.reads n)) = true := by decide +kernel
theorem ws12 : ((LW.prog.main.body.flatMap importedNames).all (fun n => !LW.reads n || (drawsOf n LW.prog.main.body).all fun mn => mn.2 != ("attrgetter" : Str) && mn.2 != ("methodcaller" : Str))) = true := by decide +kernel
theorem ws13 : (namesMeet LW.prog LW.footing (fun sc n => (!(["type", "isinstance", "issubclass", "getattr", "hasattr"] : List Str).contains n || sc.names.lookup n == some .globalImplicit) &&
    (LW.may != some n || sc.kind == .module || sc.names.lookup n == some .globalImplicit))) = true := by decide +kernel
theorem ws14 : (LW.own.contains LW.name) = true := by decide +kernel
theorem ws15 : (LW.own.eraseDups.length == LW.own.length) = true := by decide +kernel
theorem ws16 : (LW.own.all (fun n => !builtinNamed n)) = true := by decide +kernel
theorem ws17 : (namesMeet LW.prog LW.above (fun _ n => !LW.own.contains n)) = true := by rw [Fast.te17119622794617984870]; decide +kernel
theorem ws18 : (namesMeet LW.prog LW.footing fun sc n => sc.kind == .module || sc.names.lookup n != some .globalExplicit) = true := by decide +kernel
theorem well : LW.wellSaid = true := by
  unfold OpenLaw.wellSaid
  exact look_both (look_both (look_both (look_both (look_both (look_both (look_both (look_both (look_both (look_both (look_both (look_both (look_both (look_both (look_both (look_both (look_both (look_both ws0 ws1) ws2) ws3) ws4) ws5) ws6) ws7) ws8) ws9) ws10) ws11) ws12) ws13) ws14) ws15) ws16) ws17) ws18
end Mine
end
section
open PySem PySem.W PySem.Calls PyProof.Rows
open PySem.Sem (wp)
set_option maxRecDepth 100000
namespace Mine
noncomputable section
noncomputable abbrev cc : Code := .builtin "claim.caller" {}
noncomputable def lawBody : List Stmt := fdBody (stm 152)
noncomputable def lawEnv : PySem.Env := ⟨fdScope (stm 152), 1095, 3, [(Str.ofString "box", 1096)], Str.ofString "law.<locals>.", some 1093, .ref 1092, some 1095, 0⟩
noncomputable def envC (a : Nat) : PySem.Env := ⟨⟨.function, [(Str.ofString ".0", .local), (Str.ofString "at", .local), (Str.ofString "_law_take", .globalImplicit), (Str.ofString "bytes", .globalImplicit), (Str.ofString "box", .cell)], false, false, []⟩, a, 3, [(Str.ofString "box", 1096)], Str.ofString "law.<locals>.", none, .ref 1092, some 1095, 0⟩
noncomputable abbrev compC (it ac : Value) (a : Nat) : Code := .compLoop (asgV (nthS 3 lawBody)) 0 it ac (envC a)
noncomputable abbrev lawCode : Code := .func lawBody lawEnv
noncomputable def Γf : Ctx := ⟨lawCode, none, none, [(cc, default)], none⟩
noncomputable def tokS : Nat → List (Nat × Nat) → Nat → Nat
  | t, [], i => Nat.add (Nat.add t i) 1837
  | t, x :: r, i => match Nat.ble i x.1 with
    | true => Nat.add (Nat.add t i) 1837
    | false => tokS x.2 r (Nat.sub i (Nat.succ x.1))
noncomputable def incS : Nat → List (Nat × Nat) → Nat → Nat
  | _, [], _ => 1
  | t, x :: r, i => match Nat.blt i x.1 with
    | true => 1
    | false => match Nat.beq i x.1 with
      | true => Nat.sub x.2 (Nat.add t x.1)
      | false => incS x.2 r (Nat.sub i (Nat.succ x.1))
noncomputable def spAt : List Sp → Nat → Option Sp
  | [], _ => none
  | x :: l, i => match i with
    | 0 => some x
    | i + 1 => spAt l i
noncomputable def VL (w : World) (kt : X.KT) (base : List Nat) (N t : Nat) (segs : List (Nat × Nat)) (sps : List Sp) (bel : List (Code × Pos)) : SV :=
  ⟨DD, PP, w, kt, nth base, base.length, N, tokS t segs, incS t segs, bel, spAt sps⟩
noncomputable abbrev belL : List (Code × Pos) := [(cc, default)]
noncomputable def lawSl : Nat → Nat → List Stmt
  | _, 0 => []
  | i, n + 1 => nthS i lawBody :: lawSl (i + 1) n
noncomputable def tree (i n : Nat) : Sem Fin := R.bindR (Fast.tw12563942051412417395 (lawSl i n) lawEnv) fun f => .pure (.done f)
noncomputable def mkOK : List Obj → Nat → BT → Bool
  | [], _, _ => true
  | x :: l, j, T => ((T.ins j x).get j).isSome && mkOK l (j + 1) (T.ins j x)
end
noncomputable def segOK : Nat → List (Nat × Nat) → Prop
  | _, [] => True
  | t, x :: r => t + x.1 ≤ x.2 ∧ segOK x.2 r
theorem tok_step : ∀ (segs : List (Nat × Nat)) (t : Nat), segOK t segs → ∀ i, tokS t segs (i + 1) = tokS t segs i + incS t segs i
  | [], t, _, i => by show t + (i + 1) + 1837 = t + i + 1837 + 1; omega
  | x :: r, t, h, i => by
    obtain ⟨h1, h2⟩ := h
    unfold tokS incS
    have e0 : ∀ a b : Nat, Nat.ble a b = decide (a ≤ b) := fun a b => by
      cases q : Nat.ble a b with
      | true => exact (decide_eq_true (Nat.le_of_ble_eq_true q)).symm
      | false => exact (decide_eq_false fun h => by rw [Nat.ble_eq_true_of_le h] at q; cases q).symm
    rcases Nat.lt_trichotomy i x.1 with q | q | q
    · rw [show Nat.ble (i + 1) x.1 = true by rw [e0]; exact decide_eq_true q, show Nat.ble i x.1 = true by rw [e0]; exact decide_eq_true (Nat.le_of_lt q),
        show Nat.blt i x.1 = true by unfold Nat.blt; rw [e0]; exact decide_eq_true q]
      show t + (i + 1) + 1837 = t + i + 1837 + 1; omega
    · subst q
      rw [show Nat.ble (x.1 + 1) x.1 = false by rw [e0]; exact decide_eq_false (by omega), show Nat.ble x.1 x.1 = true by rw [e0]; exact decide_eq_true (Nat.le_refl _),
        show Nat.blt x.1 x.1 = false by unfold Nat.blt; rw [e0]; exact decide_eq_false (by omega), show Nat.beq x.1 x.1 = true from Nat.beq_refl _]
      show tokS x.2 r (x.1 + 1 - (x.1 + 1)) = t + x.1 + 1837 + (x.2 - (t + x.1))
      rw [Nat.sub_self]
      have : tokS x.2 r 0 = x.2 + 1837 := by
        cases r with
        | nil => rfl
        | cons y r => unfold tokS; rw [show Nat.ble 0 y.1 = true by rw [e0]; exact decide_eq_true (Nat.zero_le _)]
      omega
    · rw [show Nat.ble (i + 1) x.1 = false by rw [e0]; exact decide_eq_false (by omega), show Nat.ble i x.1 = false by rw [e0]; exact decide_eq_false (by omega),
        show Nat.blt i x.1 = false by unfold Nat.blt; rw [e0]; exact decide_eq_false (by omega), show Nat.beq i x.1 = false by
          cases z : Nat.beq i x.1 with
          | false => rfl
          | true => have := Nat.eq_of_beq_eq_true z; omega]
      show tokS x.2 r (i + 1 - (x.1 + 1)) = tokS x.2 r (i - (x.1 + 1)) + incS x.2 r (i - (x.1 + 1))
      rw [show i + 1 - (x.1 + 1) = i - (x.1 + 1) + 1 by omega]
      exact tok_step r x.2 h2 _
theorem tok_zero (t : Nat) (segs : List (Nat × Nat)) : tokS t segs 0 = t + 1837 := by
  cases segs with
  | nil => rfl
  | cons y r => unfold tokS; rw [show Nat.ble 0 y.1 = true from Nat.ble_eq_true_of_le (Nat.zero_le _)]
theorem spAt_mem : ∀ (l : List Sp) (i : Nat) (S : Sp), spAt l i = some S → S ∈ l
  | [], _, _, h => nomatch h
  | x :: l, 0, S, h => by cases h; exact List.mem_cons_self ..
  | x :: l, i + 1, S, h => List.mem_cons_of_mem _ (spAt_mem l i S h)

noncomputable def AKT (h : Heap) (kt : X.KT) : Prop := ∀ a o, kt.get a = some o → a < 1333 ∧ h.get? a = some o
theorem mkT_get : ∀ (l : List Obj) (j : Nat) (T : BT), mkOK l j T = true → ∀ i o, (mkT l j T).get i = some o → (∃ k, i = j + k ∧ l[k]? = some o) ∨ T.get i = some o
  | [], _, _, _, i, o, e => .inr e
  | x :: l, j, T, h, i, o, e => by
    unfold mkOK at h
    rw [Bool.and_eq_true] at h
    have e' : (mkT l (j + 1) (T.ins j x)).get i = some o := e
    rcases mkT_get l (j + 1) _ h.2 i o e' with ⟨k, rfl, hk⟩ | h2
    · exact .inl ⟨k + 1, by omega, hk⟩
    · rw [BT.get_ins x T _ h.1] at h2
      by_cases q : i = j
      · subst q
        rw [if_pos rfl] at h2
        cases h2
        exact .inl ⟨0, rfl, rfl⟩
      · rw [if_neg q] at h2
        exact .inr h2
theorem nth_eq : ∀ (l : List Nat) (j : Nat), j < l.length → l[j]? = some (nth l j)
  | [], j, h => absurd h (Nat.not_lt_zero _)
  | a :: l, 0, _ => rfl
  | a :: l, j + 1, h => by rw [List.getElem?_cons_succ]; exact nth_eq l j (Nat.lt_of_succ_lt_succ h)

theorem fa_nil {α : Type} {P : α → Prop} : ∀ a ∈ ([] : List α), P a := fun _ h => (nomatch h)
theorem fa_cons {α : Type} {P : α → Prop} {a : α} {l : List α} (h : P a) (k : ∀ b ∈ l, P b) : ∀ b ∈ a :: l, P b := fun b hb => (List.mem_cons.mp hb).elim (fun e => e ▸ h) (k b)
structure After (s s' : Shared) (base : List Nat) (N mE k : Nat) : Prop where
  size : s'.heap.objs.size = N + mE
  toks : s'.toks = k
  gens : s'.gens = #[]
  drawn : s'.drawn = s.drawn
  os : s'.os = s.os
  kept : ∀ a o, a ∉ base → s.heap.get? a = some o → s'.heap.get? a = some o

theorem bindR_bind {α β : Type} (m : Sem α) (f : α → Sem β) : R.bindR m f = m.bind f := by rw [R.bindR_eq]

theorem start {w : World} {kt : X.KT} {base : List Nat} {N t : Nat} {segs : List (Nat × Nat)} {sps : List Sp} {bel : List (Code × Pos)} {objs : List Obj} {own past : Option Value} {RX : Result → Shared → Prop}
    (hm : mkOK objs 0 .nil = true) (hne : base.Nodup) {s : Shared} (hN : s.heap.objs.size = N) (ht : s.toks = t + 1837) (hg : s.gens = #[])
    (hk : ∀ a o, kt.get a = some o → s.heap.get? a = some o ∧ a ∉ base) (hb : base.map s.heap.get? = objs.map some)
    (hs : segOK t segs) (hsp : ∀ S ∈ sps, SpOK ⟨VL w kt base N t segs sps bel, s.heap, s.drawn, s.os, own, past, RX⟩ S) :
    (⟨VL w kt base N t segs sps bel, s.heap, s.drawn, s.os, own, past, RX⟩ : Env0).OK ∧ Rep ⟨VL w kt base N t segs sps bel, s.heap, s.drawn, s.os, own, past, RX⟩ (mkT objs 0 .nil) 0 0 s := by
  have hlen : base.length = objs.length := by have := congrArg List.length hb; simpa using this
  have hat : ∀ j, j < base.length → ∃ o, objs[j]? = some o ∧ s.heap.get? (nth base j) = some o := fun j hj => by
    have := congrArg (·[j]?) hb
    simp only [List.getElem?_map, nth_eq base j hj, Option.map_some] at this
    cases ho : objs[j]? with
    | none => rw [ho] at this; cases this
    | some o => rw [ho] at this; exact ⟨o, rfl, Option.some.inj this⟩
  have hmem : ∀ j, j < base.length → nth base j ∈ base := fun j hj => List.mem_of_getElem? (nth_eq base j hj)
  refine ⟨⟨tok_step segs t hs, fun q S h => hsp S (spAt_mem sps q S h), ?_, fun a o e => ⟨(hk a o e).1, fun j hj q => ?_⟩, fun j hj => ?_, fun b o e => ?_, fun j hj k hk' hjk q => ?_⟩,
    hN, ht.trans (tok_zero t segs).symm, fun j o e => ?_, fun b o e _ => e, hg, rfl, rfl⟩
  · show DD = denote table; rw [DD_eq, table_eq_tree]
  · have q' : nth base j = a := q
    exact (hk a o e).2 (q' ▸ hmem j hj)
  · obtain ⟨o, _, h⟩ := hat j hj
    show nth base j < N
    rw [← hN]; exact Heap.lt_size h
  · show b < N; rw [← hN]; exact Heap.lt_size e
  · have h1 := nth_eq base j hj
    have h2 := nth_eq base k hk'
    have q' : nth base j = nth base k := q
    rw [← q'] at h2
    exact hjk ((List.getElem?_inj hj hne).mp (h1.trans h2.symm))
  · rcases mkT_get objs 0 .nil hm j o e with ⟨k, rfl, hk'⟩ | h
    · have hlt : k < objs.length := (List.getElem?_eq_some_iff.mp hk').1
      have hlt' : k < base.length := hlen ▸ hlt
      rw [Nat.zero_add]
      refine ⟨hlt', ?_⟩
      obtain ⟨o', h1, h2⟩ := hat k hlt'
      rw [hk'] at h1
      cases h1
      have ea : addr (VL w kt base N t segs sps bel) k = nth base k := by
        show (match Nat.blt k base.length with | true => nth base k | false => _) = _
        rw [show Nat.blt k base.length = true from Nat.ble_eq_true_of_le hlt']
      show s.heap.get? (addr (VL w kt base N t segs sps bel) k) = some o
      rw [ea]; exact h2
    · cases h
theorem hk_of {h : Heap} {kt : X.KT} {base : List Nat} (hkb : ∀ a ∈ base, kt.get a = none ∨ 1333 ≤ a) (hk : AKT h kt) : ∀ a o, kt.get a = some o → h.get? a = some o ∧ a ∉ base := fun a o e =>
  ⟨(hk a o e).2, fun hm => by
    rcases hkb a hm with q | q
    · rw [q] at e; cases e
    · have := (hk a o e).1; omega⟩

theorem tri {w : World} {kt : X.KT} {base : List Nat} {N t n i l : Nat} {segs : List (Nat × Nat)} {sps : List Sp} {p : Pos} {objs : List Obj} {os : List Nat} {exp : List (Nat × Obj)} {f : Flow} {mE iE : Nat}
    (chk : (runE (VL w kt base N t segs sps belL) n exp f mE iE lawCode p [] (tree i l) (mkT objs 0 .nil) 0 0 0 os .nil).ob.left = (runE (VL w kt base N t segs sps belL) n exp f mE iE lawCode p [] (tree i l) (mkT objs 0 .nil) 0 0 0 os .nil).ob.right)
    (hm : mkOK objs 0 .nil = true) (hkb : ∀ a ∈ base, kt.get a = none ∨ 1333 ≤ a) (hne : base.Nodup) {s : Shared}
    (hN : s.heap.objs.size = N) (ht : s.toks = t + 1837) (hg : s.gens = #[]) (hk : AKT s.heap kt) (hb : base.map s.heap.get? = objs.map some)
    (hs : segOK t segs) (hsp : ∀ S ∈ sps, ∀ RX, SpOK ⟨VL w kt base N t segs sps belL, s.heap, s.drawn, s.os, none, none, RX⟩ S) :
    wp (model PP w) Γf (execs (lawSl i l) lawEnv) (fun g _ s' => g = f ∧ After s s' base N mE (tokS t segs iE) ∧ ∀ x ∈ exp, s'.heap.get? (addr (VL w kt base N t segs sps belL) x.1) = some x.2) (fun _ _ _ => False) p s := by
  let RX : Result → Shared → Prop := fun r s' => r = .ok f ∧ (After s s' base N mE (tokS t segs iE) ∧ ∀ x ∈ exp, s'.heap.get? (addr (VL w kt base N t segs sps belL) x.1) = some x.2)
  let X : Env0 := ⟨VL w kt base N t segs sps belL, s.heap, s.drawn, s.os, none, none, RX⟩
  have hmem : ∀ j, j < base.length → nth base j ∈ base := fun j hj => List.mem_of_getElem? (nth_eq base j hj)
  obtain ⟨O, D⟩ := start (w := w) (kt := kt) (own := none) (past := none) (bel := belL) (RX := RX) hm hne hN ht hg (hk_of hkb hk) hb hs fun S hS => hsp S hS RX
  have g := run_sound (X := X) O chk (fun s' T' D' he => by
    refine ⟨rfl, ⟨D'.size, D'.toks, D'.gens, D'.drawn, D'.os, fun a o ha e => D'.keep a o e fun j hj q => ha ?_⟩, fun x hx => (D'.slot _ _ (he x hx)).2⟩
    rw [← (show nth base j = a from q)]; exact hmem j hj) s D
  have g' : wp (model PP w) Γf (tree i l) (Sem.finPost (model PP w) Γf X.R) (fun e _ s' => X.R (.error e) s') p s := g
  unfold tree at g'
  rw [bindR_bind, Sem.wp_bind, ← Fast.te12563942051412417395] at g'
  refine Sem.wp_mono _ _ _ (fun g _ s' h => ?_) (fun e _ s' h => ?_) _ _ g'
  · rw [Sem.wp_pure] at h
    obtain ⟨h1, h2⟩ : (Except.ok g : Result) = .ok f ∧ _ := h
    injection h1 with h1
    exact ⟨h1, h2⟩
  · have h1 := h.1
    cases h1

structure WentA (s s' : Shared) (tk' : Nat) (up : List (Addr × Obj)) (new : List Obj) : Prop where
  size : s'.heap.objs.size = s.heap.objs.size + new.length
  toks : s'.toks = tk'
  upd : ∀ x ∈ up, s'.heap.get? x.1 = some x.2
  made : ∀ k x, new[k]? = some x → s'.heap.get? (s.heap.objs.size + k) = some x
  kept : ∀ b o, (∀ x ∈ up, x.1 ≠ b) → s.heap.get? b = some o → s'.heap.get? b = some o
  gens : s'.gens = s.gens
  drawn : s'.drawn = s.drawn
  os : s'.os = s.os
noncomputable def CallOK (st : List Code) (w : World) (kt : PySem.W.X.KT) (c : Code) (tk tk' : Nat) (pre pre0 : List (Addr × Obj)) (v : Value) (up : List (Addr × Obj)) (new : Nat → List Obj) : Prop :=
  ∀ (own past : Option Value) (bel : List (Code × Pos)) (s : Shared) (R : Result → Shared → Prop) (p : Pos), (bel.map fun x => x.1) = st ++ [cc] → s.gens = #[] → AKT s.heap kt → s.toks = tk → (∀ x ∈ pre, s.heap.get? x.1 = some x.2) → (∀ x ∈ pre0, s.heap.get? x.1 = some x.2) →
    (∀ s', WentA s s' tk' up (new s.heap.objs.size) → R (.ok (.ret v)) s') → wpCode (model PP w) ⟨c, none, own, bel, past⟩ R p s
theorem spOK_of {X : Env0} {S : Sp} {w : World} {kt : PySem.W.X.KT} {tk tk' : Nat} {pre pre0 up : List (Addr × Obj)} (hP : X.V.prog = PP) (hw : X.V.w = w)
    (hk : ∀ a o, kt.get a = some o → (a < 1333 ∧ X.h₀.get? a = some o) ∧ ∀ j < X.V.nb, X.V.base j ≠ a) {new : Nat → List Obj} (hbl : (X.V.bel.map fun x => x.1) = [cc]) {st : List Code} (hS : S.st = some st) (C : CallOK st w kt S.c tk tk' pre pre0 S.v up new) (hn : new (X.V.N + S.m) = S.new)
    (ht : X.V.tok S.i = tk) (ht' : X.V.tok (S.i + S.j) = tk') (hpre : S.pre.map (fun x => (addr X.V x.1, x.2)) = pre) (hup : S.up.map (fun x => (addr X.V x.1, x.2)) = up)
    (hp0 : ∀ x ∈ pre0, X.h₀.get? x.1 = some x.2 ∧ ∀ j < X.V.nb, X.V.base j ≠ x.1) : SpOK X S := by
  intro κ c p p' s R hstk hg hkeep hsz hst hpr hR
  subst hpre hup hw
  rw [hP]
  refine C X.own X.past _ s R p' (by show ((c, p) :: ((κ.map fun f => (f.c, f.p)) ++ X.V.bel)).map _ = _; rw [List.map_cons, List.map_append, List.map_map, hbl, ← hstk st hS]; rfl) hg (fun a o e => ⟨(hk a o e).1.1, hkeep a o (hk a o e).1.2 (hk a o e).2⟩) (hst.trans ht) (fun x hx => ?_) (fun x hx => hkeep _ _ (hp0 x hx).1 (hp0 x hx).2) fun s' W => hR s' ?_
  · obtain ⟨y, hy, rfl⟩ := List.mem_map.mp hx
    exact hpr y hy
  · rw [hsz, hn] at W
    exact ⟨W.size, W.toks.trans ht'.symm, fun x hx => W.upd _ (List.mem_map.mpr ⟨x, hx, rfl⟩), W.made, fun b o hb e => W.kept b o (fun x hx => by obtain ⟨y, hy, rfl⟩ := List.mem_map.mp hx; exact hb y hy) e, W.gens, W.drawn, W.os⟩
noncomputable def CallAt (sz : Nat) (st : List Code) (w : World) (kt : PySem.W.X.KT) (c : Code) (tk tk' : Nat) (pre pre0 : List (Addr × Obj)) (v : Value) (up : List (Addr × Obj)) (new : List Obj) : Prop :=
  ∀ (own past : Option Value) (bel : List (Code × Pos)) (s : Shared) (R : Result → Shared → Prop) (p : Pos), (bel.map fun x => x.1) = st ++ [cc] → s.heap.objs.size = sz → s.gens = #[] → AKT s.heap kt → s.toks = tk → (∀ x ∈ pre, s.heap.get? x.1 = some x.2) → (∀ x ∈ pre0, s.heap.get? x.1 = some x.2) →
    (∀ s', WentA s s' tk' up new → R (.ok (.ret v)) s') → wpCode (model PP w) ⟨c, none, own, bel, past⟩ R p s
theorem spAt_of {X : Env0} {S : Sp} {w : World} {kt : PySem.W.X.KT} {sz tk tk' : Nat} {pre pre0 up : List (Addr × Obj)} (hP : X.V.prog = PP) (hw : X.V.w = w)
    (hk : ∀ a o, kt.get a = some o → (a < 1333 ∧ X.h₀.get? a = some o) ∧ ∀ j < X.V.nb, X.V.base j ≠ a) (hbl : (X.V.bel.map fun x => x.1) = [cc]) {st : List Code} (hS : S.st = some st) (C : CallAt sz st w kt S.c tk tk' pre pre0 S.v up S.new) (hn : X.V.N + S.m = sz)
    (ht : X.V.tok S.i = tk) (ht' : X.V.tok (S.i + S.j) = tk') (hpre : S.pre.map (fun x => (addr X.V x.1, x.2)) = pre) (hup : S.up.map (fun x => (addr X.V x.1, x.2)) = up)
    (hp0 : ∀ x ∈ pre0, X.h₀.get? x.1 = some x.2 ∧ ∀ j < X.V.nb, X.V.base j ≠ x.1) : SpOK X S := by
  intro κ c p p' s R hstk hg hkeep hsz hst hpr hR
  subst hpre hup hw
  rw [hP]
  refine C X.own X.past _ s R p' (by show ((c, p) :: ((κ.map fun f => (f.c, f.p)) ++ X.V.bel)).map _ = _; rw [List.map_cons, List.map_append, List.map_map, hbl, ← hstk st hS]; rfl) (hsz.trans hn) hg (fun a o e => ⟨(hk a o e).1.1, hkeep a o (hk a o e).1.2 (hk a o e).2⟩) (hst.trans ht) (fun x hx => ?_) (fun x hx => hkeep _ _ (hp0 x hx).1 (hp0 x hx).2) fun s' W => hR s' ?_
  · obtain ⟨y, hy, rfl⟩ := List.mem_map.mp hx
    exact hpr y hy
  · exact ⟨W.size, W.toks.trans ht'.symm, fun x hx => W.upd _ (List.mem_map.mpr ⟨x, hx, rfl⟩), W.made, fun b o hb e => W.kept b o (fun x hx => by obtain ⟨y, hy, rfl⟩ := List.mem_map.mp hx; exact hb y hy) e, W.gens, W.drawn, W.os⟩
theorem posts_of {V : SV} {h : Heap} {exp : List (Nat × Obj)} {l : List (Addr × Obj)} (k : ∀ x ∈ exp, h.get? (addr V x.1) = some x.2) (e : exp.map (fun x => (addr V x.1, x.2)) = l) : ∀ x ∈ l, h.get? x.1 = some x.2 := fun x hx => by
  subst e
  obtain ⟨y, hy, rfl⟩ := List.mem_map.mp hx
  exact k y hy
theorem sp_base {w : World} {kt : PySem.W.X.KT} {base : List Nat} {N t : Nat} {segs : List (Nat × Nat)} {sps : List Sp} {bel : List (Code × Pos)} {h : Heap} (hkb : ∀ a ∈ base, kt.get a = none ∨ 1333 ≤ a) (hk : AKT h kt) :
    ∀ a o, kt.get a = some o → (a < 1333 ∧ h.get? a = some o) ∧ ∀ j < (VL w kt base N t segs sps bel).nb, (VL w kt base N t segs sps bel).base j ≠ a := fun a o e =>
  ⟨hk a o e, fun j hj q => (hk_of hkb hk a o e).2 ((show nth base j = a from q) ▸ List.mem_of_getElem? (nth_eq base j hj))⟩
theorem sp_keep {w : World} {kt : PySem.W.X.KT} {base : List Nat} {N t : Nat} {segs : List (Nat × Nat)} {sps : List Sp} {bel : List (Code × Pos)} {h : Heap} {pre0 : List (Addr × Obj)} (hp : ∀ x ∈ pre0, h.get? x.1 = some x.2 ∧ x.1 ∉ base) :
    ∀ x ∈ pre0, h.get? x.1 = some x.2 ∧ ∀ j < (VL w kt base N t segs sps bel).nb, (VL w kt base N t segs sps bel).base j ≠ x.1 := fun x hx =>
  ⟨(hp x hx).1, fun j hj q => (hp x hx).2 ((show nth base j = x.1 from q) ▸ List.mem_of_getElem? (nth_eq base j hj))⟩

theorem call_of {st : List Code} {w : World} {kt : PySem.W.X.KT} {base : List Nat} {t n : Nat} {segs : List (Nat × Nat)} {sps : List Sp} {objs objs' : List Obj} {os : List Nat} {iE : Nat} {c : Code} {v : Value} {pre pre0 up : List (Addr × Obj)} {exp : Nat → List (Nat × Obj)} {new : Nat → List Obj} {mE : Nat}
    (chk : ∀ (N : Nat) (bel : List (Code × Pos)) (p : Pos), (bel.map fun x => x.1) = st ++ [cc] → (runE (VL w kt base (N + 1090) t segs sps bel) n (exp N) (.ret v) mE iE c p [] (DD c) (mkT objs 0 .nil) 0 0 0 os .nil).ob.left =
      (runE (VL w kt base (N + 1090) t segs sps bel) n (exp N) (.ret v) mE iE c p [] (DD c) (mkT objs 0 .nil) 0 0 0 os .nil).ob.right)
    (hm : mkOK objs 0 .nil = true) (hkb : ∀ a ∈ base, kt.get a = none ∨ 1333 ≤ a) (hne : base.Nodup)
    (hpre : ∀ x ∈ base.zip objs, x ∈ pre ++ pre0) (hlen : objs.length = base.length) (hlen' : objs'.length = base.length)
    (hup : ∀ x ∈ up, x ∈ base.zip objs') (hkept : ∀ (j a : Nat) (o : Obj), base[j]? = some a → objs[j]? = some o → (∀ x ∈ up, x.1 ≠ a) → objs'[j]? = some o)
    (hmE : ∀ N, (new N).length = mE) (hexp : ∀ (N j : Nat) (o : Obj), objs'[j]? = some o → (j, o) ∈ exp N) (hnew : ∀ (N j : Nat) (o : Obj), (new (N + 1090))[j]? = some o → (base.length + j, o) ∈ exp N)
    (hs : segOK t segs) (hsp : ∀ S ∈ sps, ∀ (N : Nat) (s : Shared) bel own past RX, AKT s.heap kt → SpOK ⟨VL w kt base N t segs sps bel, s.heap, s.drawn, s.os, own, past, RX⟩ S)
    (hbig : (∃ a ∈ base, 1089 ≤ a) ∨ ∃ a o, kt.get a = some o ∧ 1089 ≤ a) : CallOK st w kt c (t + 1837) (tokS t segs iE) pre pre0 v up new := by
  intro own past bel s R p hbl hg hk hst hp1 hp2 hR
  have hpr' : ∀ x ∈ base.zip objs, s.heap.get? x.1 = some x.2 := fun x hx => by
    rcases List.mem_append.mp (hpre x hx) with h | h
    · exact hp1 x h
    · exact hp2 x h
  have hb : base.map s.heap.get? = objs.map some := by
    refine List.ext_getElem (by simp [hlen]) fun j h1 h2 => ?_
    simp only [List.getElem_map]
    have h1' : j < base.length := by simpa using h1
    have h2' : j < objs.length := by simpa using h2
    refine hpr' (base[j], objs[j]) ?_
    have hz : j < (base.zip objs).length := by rw [List.length_zip, hlen, Nat.min_self]; exact h1'
    have : (base.zip objs)[j] = (base[j], objs[j]) := List.getElem_zip
    exact this ▸ List.getElem_mem hz
  have hN : 1090 ≤ s.heap.objs.size := by
    rcases hbig with ⟨a, ha, h1⟩ | ⟨a, o, ha, h1⟩
    rotate_left
    · have h2 : a < s.heap.objs.size := Heap.lt_size (hk a o ha).2
      omega
    obtain ⟨j, hj, rfl⟩ := List.mem_iff_getElem.mp ha
    have := congrArg (·[j]?) hb
    simp only [List.getElem?_map, List.getElem?_eq_getElem hj, List.getElem?_eq_getElem (show j < objs.length by omega), Option.map_some] at this
    have h2 : base[j] < s.heap.objs.size := Heap.lt_size (Option.some.inj this)
    omega
  obtain ⟨N, hN⟩ := Nat.exists_eq_add_of_le hN
  have hN : s.heap.objs.size = N + 1090 := by omega
  let X' : Env0 := ⟨VL w kt base (N + 1090) t segs sps bel, s.heap, s.drawn, s.os, own, past, R⟩
  have hmem : ∀ j, j < base.length → nth base j ∈ base := fun j hj => List.mem_of_getElem? (nth_eq base j hj)
  obtain ⟨O, D⟩ := start (w := w) (kt := kt) (own := own) (past := past) (bel := bel) (RX := R) (s := s) hm hne hN hst hg
    (hk_of hkb hk) hb hs fun S hS => hsp S hS _ _ _ _ _ _ hk
  have ea : ∀ j, j < base.length → addr X'.V j = nth base j := fun j hj => by
    show (match Nat.blt j base.length with | true => nth base j | false => _) = _
    rw [show Nat.blt j base.length = true from Nat.ble_eq_true_of_le hj]
  have eN : ∀ j, addr X'.V (base.length + j) = s.heap.objs.size + j := fun j => by
    show (match Nat.blt (base.length + j) base.length with | true => _ | false => N + 1090 + (base.length + j - base.length)) = _
    rw [show Nat.blt (base.length + j) base.length = false by
      cases q : Nat.blt (base.length + j) base.length with
      | false => rfl
      | true => have := PySem.W.X.blt_true q; omega]
    dsimp only
    rw [Nat.add_sub_cancel_left, hN]
  have g := run_sound (X := X') O (chk N bel p hbl) (fun s' T' D' he => hR s' ?_) s D
  · have g' : Goal X' [] c (DD c) p s := g
    rw [goal_eq] at g'
    refine (wpCode_iff_wp _ _ _ _ _).mpr ?_
    rw [DD_eq, ← table_eq_tree] at g'
    exact g'
  · have hat : ∀ j o, objs'[j]? = some o → s'.heap.get? (nth base j) = some o := fun j o ho => by
      have h1 : j < base.length := by rw [← hlen']; exact (List.getElem?_eq_some_iff.mp ho).1
      have h4 := (D'.slot _ _ (he _ (hexp N j o ho))).2
      rw [ea j h1] at h4
      exact h4
    have hupd : ∀ x ∈ base.zip objs', s'.heap.get? x.1 = some x.2 := fun x hx => by
      obtain ⟨j, hj, rfl⟩ := List.mem_iff_getElem.mp hx
      have h1 : j < base.length := by rw [List.length_zip] at hj; omega
      have h2 : j < objs'.length := by rw [hlen']; exact h1
      have h5 := nth_eq base j h1
      rw [List.getElem?_eq_getElem h1] at h5
      have h5 := Option.some.inj h5
      have h6 : (base.zip objs')[j] = (base[j], objs'[j]) := List.getElem_zip
      rw [h6, h5]
      exact hat j _ (List.getElem?_eq_getElem h2)
    refine ⟨?_, D'.toks, fun x hx => hupd x (hup x hx), fun k x hx => ?_, fun b o hb' e => ?_, by rw [D'.gens, hg], D'.drawn, D'.os⟩
    · rw [hmE, hN]; exact D'.size
    · rw [hN] at hx
      have h3 := (D'.slot _ _ (he _ (hnew N k x hx))).2
      rw [eN] at h3
      exact h3
    · by_cases hbb : b ∈ base
      · obtain ⟨j, hj, rfl⟩ := List.mem_iff_getElem.mp hbb
        have hj2 : j < objs.length := by omega
        have e1 : s.heap.get? base[j] = some objs[j] := by
          have := congrArg (·[j]?) hb
          simp only [List.getElem?_map, List.getElem?_eq_getElem hj, List.getElem?_eq_getElem hj2, Option.map_some] at this
          exact Option.some.inj this
        rw [e1] at e
        have h5 := nth_eq base j hj
        rw [List.getElem?_eq_getElem hj] at h5
        rw [Option.some.inj h5]
        exact hat j o (hkept j _ _ (List.getElem?_eq_getElem hj) (by rw [List.getElem?_eq_getElem hj2]; exact e) hb')
      · exact D'.keep b o e fun j hj q => hbb ((show nth base j = b from q) ▸ hmem j hj)

theorem callAt_of {st : List Code} {w : World} {kt : PySem.W.X.KT} {base : List Nat} {t n : Nat} {segs : List (Nat × Nat)} {sps : List Sp} {objs objs' : List Obj} {os : List Nat} {iE : Nat} {c : Code} {v : Value} {pre pre0 up : List (Addr × Obj)} {exp : List (Nat × Obj)} {new : List Obj} {mE sz : Nat}
    (chk : ∀ (bel : List (Code × Pos)) (p : Pos), (bel.map fun x => x.1) = st ++ [cc] → (runE (VL w kt base sz t segs sps bel) n exp (.ret v) mE iE c p [] (DD c) (mkT objs 0 .nil) 0 0 0 os .nil).ob.left =
      (runE (VL w kt base sz t segs sps bel) n exp (.ret v) mE iE c p [] (DD c) (mkT objs 0 .nil) 0 0 0 os .nil).ob.right)
    (hm : mkOK objs 0 .nil = true) (hkb : ∀ a ∈ base, kt.get a = none ∨ 1333 ≤ a) (hne : base.Nodup)
    (hpre : ∀ x ∈ base.zip objs, x ∈ pre ++ pre0) (hlen : objs.length = base.length) (hlen' : objs'.length = base.length)
    (hup : ∀ x ∈ up, x ∈ base.zip objs') (hkept : ∀ (j a : Nat) (o : Obj), base[j]? = some a → objs[j]? = some o → (∀ x ∈ up, x.1 ≠ a) → objs'[j]? = some o)
    (hmE : new.length = mE) (hexp : ∀ (j : Nat) (o : Obj), objs'[j]? = some o → (j, o) ∈ exp) (hnew : ∀ (j : Nat) (o : Obj), new[j]? = some o → (base.length + j, o) ∈ exp)
    (hs : segOK t segs) (hsp : ∀ S ∈ sps, ∀ (N : Nat) (s : Shared) bel own past RX, AKT s.heap kt → SpOK ⟨VL w kt base N t segs sps bel, s.heap, s.drawn, s.os, own, past, RX⟩ S)
    : CallAt sz st w kt c (t + 1837) (tokS t segs iE) pre pre0 v up new := by
  intro own past bel s R p hbl hN hg hk hst hp1 hp2 hR
  have hpr' : ∀ x ∈ base.zip objs, s.heap.get? x.1 = some x.2 := fun x hx => by
    rcases List.mem_append.mp (hpre x hx) with h | h
    · exact hp1 x h
    · exact hp2 x h
  have hb : base.map s.heap.get? = objs.map some := by
    refine List.ext_getElem (by simp [hlen]) fun j h1 h2 => ?_
    simp only [List.getElem_map]
    have h1' : j < base.length := by simpa using h1
    have h2' : j < objs.length := by simpa using h2
    refine hpr' (base[j], objs[j]) ?_
    have hz : j < (base.zip objs).length := by rw [List.length_zip, hlen, Nat.min_self]; exact h1'
    have : (base.zip objs)[j] = (base[j], objs[j]) := List.getElem_zip
    exact this ▸ List.getElem_mem hz
  let X' : Env0 := ⟨VL w kt base sz t segs sps bel, s.heap, s.drawn, s.os, own, past, R⟩
  have hmem : ∀ j, j < base.length → nth base j ∈ base := fun j hj => List.mem_of_getElem? (nth_eq base j hj)
  obtain ⟨O, D⟩ := start (w := w) (kt := kt) (own := own) (past := past) (bel := bel) (RX := R) (s := s) hm hne hN hst hg
    (hk_of hkb hk) hb hs fun S hS => hsp S hS _ _ _ _ _ _ hk
  have ea : ∀ j, j < base.length → addr X'.V j = nth base j := fun j hj => by
    show (match Nat.blt j base.length with | true => nth base j | false => _) = _
    rw [show Nat.blt j base.length = true from Nat.ble_eq_true_of_le hj]
  have eN : ∀ j, addr X'.V (base.length + j) = s.heap.objs.size + j := fun j => by
    show (match Nat.blt (base.length + j) base.length with | true => _ | false => sz + (base.length + j - base.length)) = _
    rw [show Nat.blt (base.length + j) base.length = false by
      cases q : Nat.blt (base.length + j) base.length with
      | false => rfl
      | true => have := PySem.W.X.blt_true q; omega]
    dsimp only
    rw [Nat.add_sub_cancel_left, hN]
  have g := run_sound (X := X') O (chk bel p hbl) (fun s' T' D' he => hR s' ?_) s D
  · have g' : Goal X' [] c (DD c) p s := g
    rw [goal_eq] at g'
    refine (wpCode_iff_wp _ _ _ _ _).mpr ?_
    rw [DD_eq, ← table_eq_tree] at g'
    exact g'
  · have hat : ∀ j o, objs'[j]? = some o → s'.heap.get? (nth base j) = some o := fun j o ho => by
      have h1 : j < base.length := by rw [← hlen']; exact (List.getElem?_eq_some_iff.mp ho).1
      have h4 := (D'.slot _ _ (he _ (hexp j o ho))).2
      rw [ea j h1] at h4
      exact h4
    have hupd : ∀ x ∈ base.zip objs', s'.heap.get? x.1 = some x.2 := fun x hx => by
      obtain ⟨j, hj, rfl⟩ := List.mem_iff_getElem.mp hx
      have h1 : j < base.length := by rw [List.length_zip] at hj; omega
      have h2 : j < objs'.length := by rw [hlen']; exact h1
      have h5 := nth_eq base j h1
      rw [List.getElem?_eq_getElem h1] at h5
      have h5 := Option.some.inj h5
      have h6 : (base.zip objs')[j] = (base[j], objs'[j]) := List.getElem_zip
      rw [h6, h5]
      exact hat j _ (List.getElem?_eq_getElem h2)
    refine ⟨?_, D'.toks, fun x hx => hupd x (hup x hx), fun k x hx => ?_, fun b o hb' e => ?_, by rw [D'.gens, hg], D'.drawn, D'.os⟩
    · rw [hmE, hN]; exact D'.size
    · have h3 := (D'.slot _ _ (he _ (hnew k x hx))).2
      rw [eN] at h3
      exact h3
    · by_cases hbb : b ∈ base
      · obtain ⟨j, hj, rfl⟩ := List.mem_iff_getElem.mp hbb
        have hj2 : j < objs.length := by omega
        have e1 : s.heap.get? base[j] = some objs[j] := by
          have := congrArg (·[j]?) hb
          simp only [List.getElem?_map, List.getElem?_eq_getElem hj, List.getElem?_eq_getElem hj2, Option.map_some] at this
          exact Option.some.inj this
        rw [e1] at e
        have h5 := nth_eq base j hj
        rw [List.getElem?_eq_getElem hj] at h5
        rw [Option.some.inj h5]
        exact hat j o (hkept j _ _ (List.getElem?_eq_getElem hj) (by rw [List.getElem?_eq_getElem hj2]; exact e) hb')
      · exact D'.keep b o e fun j hj q => hbb ((show nth base j = b from q) ▸ hmem j hj)

noncomputable def expOf : Nat → List Obj → List (Nat × Obj)
  | _, [] => []
  | k, x :: l => (k, x) :: expOf (k + 1) l
theorem expOf_mem : ∀ (l : List Obj) (k j : Nat) (o : Obj), l[j]? = some o → (k + j, o) ∈ expOf k l
  | [], _, _, _, h => by simp at h
  | x :: l, k, 0, o, h => by cases h; exact List.mem_cons_self ..
  | x :: l, k, j + 1, o, h => by
    rw [List.getElem?_cons_succ] at h
    have := expOf_mem l (k + 1) j o h
    rw [show k + (j + 1) = k + 1 + j by omega]
    exact List.mem_cons_of_mem _ this
theorem call_ro {st : List Code} {w : World} {kt : PySem.W.X.KT} {base : List Nat} {t n : Nat} {objs : List Obj} {os : List Nat} {iE mE : Nat} {c : Code} {v : Value} {exp : Nat → List (Nat × Obj)} {new : Nat → List Obj}
    (chk : ∀ (N : Nat) (bel : List (Code × Pos)) (p : Pos), (bel.map fun x => x.1) = st ++ [cc] → (runE (VL w kt base (N + 1090) t [] [] bel) n (exp N) (.ret v) mE iE c p [] (DD c) (mkT objs 0 .nil) 0 0 0 os .nil).ob.left =
      (runE (VL w kt base (N + 1090) t [] [] bel) n (exp N) (.ret v) mE iE c p [] (DD c) (mkT objs 0 .nil) 0 0 0 os .nil).ob.right)
    (hm : mkOK objs 0 .nil = true) (hkb : ∀ a ∈ base, kt.get a = none ∨ 1333 ≤ a) (hne : base.Nodup) (hlen : objs.length = base.length)
    (hmE : ∀ N, (new N).length = mE) (hexp : ∀ N, exp N = expOf 0 (objs ++ new (N + 1090))) (hbig : ∃ a ∈ base, 1089 ≤ a) : CallOK st w kt c (t + 1837) (tokS t [] iE) [] (base.zip objs) v [] new :=
  call_of (objs' := objs) chk hm hkb hne (fun _ h => h) hlen hlen fa_nil (fun _ _ _ _ h _ => h) hmE
    (fun N j o h => by rw [hexp]; have := expOf_mem (objs ++ new (N + 1090)) 0 j o (by rw [List.getElem?_append_left (List.getElem?_eq_some_iff.mp h).1]; exact h); rwa [Nat.zero_add] at this)
    (fun N j o h => by rw [hexp, ← hlen]; have := expOf_mem (objs ++ new (N + 1090)) 0 (objs.length + j) o (by rw [List.getElem?_append_right (Nat.le_add_right _ _), Nat.add_sub_cancel_left]; exact h); rwa [Nat.zero_add] at this)
    trivial fa_nil (.inl hbig)

theorem bel2 {a b : Code} {bel : List (Code × Pos)} (h : (bel.map fun x => x.1) = [a] ++ [b]) : ∃ p q, bel = [(a, p), (b, q)] := by
  match bel, h with
  | [(x, p), (y, q)], h => simp only [List.map_cons, List.map_nil, List.cons_append, List.nil_append, List.cons.injEq, and_true] at h; obtain ⟨rfl, rfl⟩ := h; exact ⟨p, q, rfl⟩
  | [], h => simp at h
  | [_], h => simp at h
  | _ :: _ :: _ :: _, h => simp at h
theorem bel3 {a b c : Code} {bel : List (Code × Pos)} (h : (bel.map fun x => x.1) = [a, b] ++ [c]) : ∃ p q r, bel = [(a, p), (b, q), (c, r)] := by
  match bel, h with
  | [(x, p), (y, q), (z, r)], h => simp only [List.map_cons, List.map_nil, List.cons_append, List.nil_append, List.cons.injEq, and_true] at h; obtain ⟨rfl, rfl, rfl⟩ := h; exact ⟨p, q, r, rfl⟩
  | [], h => simp at h
  | [_], h => simp at h
  | [_, _], h => simp at h
  | _ :: _ :: _ :: _ :: _, h => simp at h
theorem call_pure {st : List Code} {w : World} {kt : PySem.W.X.KT} {t n : Nat} {os : List Nat} {iE mE : Nat} {c : Code} {v : Value} {exp : Nat → List (Nat × Obj)} {new : Nat → List Obj}
    (chk : ∀ (N : Nat) (bel : List (Code × Pos)) (p : Pos), (bel.map fun x => x.1) = st ++ [cc] → (runE (VL w kt [] (N + 1090) t [] [] bel) n (exp N) (.ret v) mE iE c p [] (DD c) (mkT [] 0 .nil) 0 0 0 os .nil).ob.left =
      (runE (VL w kt [] (N + 1090) t [] [] bel) n (exp N) (.ret v) mE iE c p [] (DD c) (mkT [] 0 .nil) 0 0 0 os .nil).ob.right)
    (hmE : ∀ N, (new N).length = mE) (hexp : ∀ N, exp N = expOf 0 (new (N + 1090))) (hbig : ∃ a o, kt.get a = some o ∧ 1089 ≤ a) : CallOK st w kt c (t + 1837) (tokS t [] iE) [] [] v [] new :=
  call_of (objs := []) (objs' := []) (base := []) chk rfl fa_nil List.nodup_nil (fun _ h => h) rfl rfl fa_nil (fun _ _ _ _ h _ => h) hmE
    (fun N j o h => by simp at h)
    (fun N j o h => by rw [hexp]; exact expOf_mem (new (N + 1090)) 0 j o h)
    trivial fa_nil (.inr hbig)
theorem belC {α β : Type} {a : α} {l : List α} {bel : List (α × β)} (h : (bel.map fun x => x.1) = a :: l) : ∃ p r, bel = (a, p) :: r ∧ (r.map fun x => x.1) = l := by
  cases bel with
  | nil => simp at h
  | cons x r =>
    obtain ⟨y, p⟩ := x
    simp only [List.map_cons, List.cons.injEq] at h
    obtain ⟨rfl, h⟩ := h
    exact ⟨p, r, rfl, h⟩
theorem belN {α β : Type} {bel : List (α × β)} (h : (bel.map fun x => x.1) = []) : bel = [] := List.map_eq_nil_iff.mp h
theorem bel6 {a b c d e f : Code} {bel : List (Code × Pos)} (h : (bel.map fun x => x.1) = [a, b, c, d, e] ++ [f]) : ∃ p q r s t u, bel = [(a, p), (b, q), (c, r), (d, s), (e, t), (f, u)] := by
  obtain ⟨p, r1, e1, h1⟩ := belC h
  obtain ⟨q, r2, e2, h2⟩ := belC h1
  obtain ⟨r, r3, e3, h3⟩ := belC h2
  obtain ⟨s, r4, e4, h4⟩ := belC h3
  obtain ⟨t, r5, e5, h5⟩ := belC h4
  obtain ⟨u, r6, e6, h6⟩ := belC h5
  exact ⟨p, q, r, s, t, u, by rw [e1, e2, e3, e4, e5, e6, belN h6]⟩
theorem lawSl_append : ∀ (n i m : Nat), lawSl i (n + m) = lawSl i n ++ lawSl (i + n) m
  | 0, i, m => by rw [Nat.zero_add, Nat.add_zero]; rfl
  | n + 1, i, m => by
    rw [show n + 1 + m = (n + m) + 1 by omega, show i + (n + 1) = i + 1 + n by omega]
    show _ :: lawSl (i + 1) (n + m) = _ :: (lawSl (i + 1) n ++ _)
    rw [lawSl_append n]
theorem wp_execs_append {M : Model} {Γ : Ctx} {Q : Flow → Pos → Shared → Prop} {E : Value → Pos → Shared → Prop} (env : PySem.Env) (b : List Stmt) : ∀ (a : List Stmt) (p : Pos) (s : Shared),
    wp M Γ (execs a env) (fun f p s => f = Flow.next ∧ wp M Γ (execs b env) Q E p s) E p s → wp M Γ (execs (a ++ b) env) Q E p s
  | [], p, s, h => by
    have h' : wp M Γ (Sem.pure Flow.next) (fun f p s => f = Flow.next ∧ wp M Γ (execs b env) Q E p s) E p s := h
    rw [Sem.wp_pure] at h'
    exact h'.2
  | st :: a, p, s, h => by
    rw [List.cons_append, execs_cons]
    rw [execs_cons] at h
    have h' := (Sem.wp_bind' ..).mp h
    refine (Sem.wp_bind' ..).mpr ?_
    refine Sem.wp_mono _ _ _ (fun f p s h => ?_) (fun _ _ _ h => h) _ _ h'
    cases f with
    | next => exact wp_execs_append env b a p s h
    | brk => exact absurd (show Flow.brk = .next ∧ _ from h).1 (by simp)
    | cont => exact absurd (show Flow.cont = .next ∧ _ from h).1 (by simp)
    | ret v => exact absurd (show Flow.ret v = .next ∧ _ from h).1 (by simp)
theorem seq {w : World} {i n m : Nat} {p : Pos} {s : Shared} {P : Shared → Prop} {Q : Flow → Pos → Shared → Prop} {f : Flow}
    (h : wp (model PP w) Γf (execs (lawSl i n) lawEnv) (fun g _ s' => g = f ∧ P s') (fun _ _ _ => False) p s) (hf : f = .next)
    (k : ∀ s' p', P s' → wp (model PP w) Γf (execs (lawSl (i + n) m) lawEnv) Q (fun _ _ _ => False) p' s') :
    wp (model PP w) Γf (execs (lawSl i (n + m)) lawEnv) Q (fun _ _ _ => False) p s := by
  subst hf
  rw [lawSl_append]
  exact wp_execs_append _ _ _ _ _ (Sem.wp_mono _ _ _ (fun g p' s' h => ⟨h.1, k s' p' h.2⟩) (fun _ _ _ h => h) _ _ h)
end Mine
end
section
open PySem PySem.W PySem.Calls PyProof.Rows
open PySem.Sem (wp)
set_option maxRecDepth 100000
namespace Mine
section
variable {prog : Program} {w : World} {A : Around} {s : Shared} {R : Result → Shared → Prop}
theorem code_le {a b : Int} {t u : Tok} {q : Bool} (hq : decide (a ≤ b) = q) (h : R (.ok (.ret (.bool q))) s) : codeAny (model prog w) A (.call (.builtin "int.__le__") ⟨[.int a t, .int b u], []⟩) R s := by
  subst hq
  refine codeAny_call_builtin F.slot_int_le.plain F.entry_int_le (F.slot_int_le.check _ _ _ _ _ _ _ _ (typeIs_int s a t) (F.args_int_le_2 _ _) ?_)
  show wpAny _ _ (ret (.bool (decide (a ≤ b)))) _ _ s
  exact wpAny_pure h
theorem code_function {id : String} {b : Builtin} {args : List Value} (hk : builtinKind id = none) (hp : plainId id = true)
    (hb : entryFor table id = some b) (ha : argsOk id ⟨args, []⟩)
    (hc : wpAny (model prog w) A.in1 (b ⟨args, []⟩) (fun fin s' => ∃ v, fin = .done (.ret v) ∧ R (.ok (.ret v)) s') (fun e s' => R (.error e) s') s) : codeAny (model prog w) A (.call (.builtin id) ⟨args, []⟩) R s := by
  refine codeAny_call_builtin hp hb ?_
  have hfin := wpAny_mono hc (Q' := fun fin s' => match fin with
      | .done f => R (.ok f) s'
      | .again c' => c'.quiet = true ∧ codeAny (model prog w) A c' R s')
    (fun fin s' h' => by obtain ⟨v, rfl, hv⟩ := h'; exact hv) fun _ _ h' => h'
  simp only [checkBuiltinCall, hk]
  cases hsig : Manifest.signature? id with
  | none => exact wpAny_pure hfin
  | some sig =>
    simp only [argsOk, hsig] at ha
    have h2 : Bind.checkArgs id sig ⟨args, []⟩ = pure () := ha
    show wpAny _ A.in1 (Bind.checkArgs id sig ⟨args, []⟩) _ _ s
    rw [h2]
    exact wpAny_pure hfin
theorem code_len {l : Addr} {items : Array Value} (hl : s.heap.IsList l items) (hfit : (items.size : Int) < 2 ^ 63)
    (h : R (.ok (.ret (.int items.size (s.toks + 1)))) { s with toks := s.toks + 1 + 1 }) : codeAny (model prog w) A (.call (.builtin "len") ⟨[.ref l], []⟩) R s :=
  code_function kind_len plain_len entry_len (args_len1 _) (wpAny_mono (wpAny_len_body_list (Q := fun v s' => R (.ok (.ret v)) s') hl hfit h) (fun _ _ h => h) fun _ _ h => h)
theorem code_slice {l sl : Addr} {items : Array Value} {vl vu vs : Value} {lo hi st : Option Int} (hl : s.heap.IsList l items)
    (hs : s.heap.IsSliceOf sl vl vu vs) (pl : IsPart vl lo) (pu : IsPart vu hi) (ps : IsPart vs st) (h0 : st ≠ some 0)
    (h : R (.ok (.ret (.ref s.heap.objs.size))) { s with heap := s.heap.push { cls := .type "list", data := .seq (slicePick items lo hi st) } })
    (hsz : (slicePick items lo hi st).size ≤ sizeLine) : codeAny (model prog w) A (.call (.builtin "list.__getitem__") ⟨[.ref l, .ref sl], []⟩) R s := by
  obtain ⟨o, ho, hc, ne, hd⟩ := id hl
  obtain ⟨os, hos, hcs, hds⟩ := id hs
  have hTs : s.TypeIs (.ref sl) "slice" := ⟨os, hos, hcs⟩
  refine codeAny_call_builtin slot_list_getitem.plain entry_list_getitem (slot_list_getitem.check _ _ _ _ _ _ _ _ hl.typeIs (args_list_getitem _ _) ?_)
  show wpAny _ _ (Builtin.List.listSubscript? (.ref sl) >>= _) _ _ s
  refine wpAny_bind ?_
  · unfold Builtin.List.listSubscript?
    refine wpAny_bind (wpAny_specialOf hTs slice_no_index ?_)
    simp only [Option.isNone_none, if_true]
    refine wpAny_pure ?_
    show wpAny _ _ (typeOf (.ref sl) >>= _) _ _ s
    refine wpAny_bind (wpAny_typeOf hTs ?_)
    rw [if_neg (by decide)]
    rw [listSliceParts_eq]
    have hstep : ¬ ((rawPart st == rawInt 0) = true) := by
      cases st with
      | none => exact Bool.false_ne_true
      | some c =>
        intro hh
        have : c = 0 := by simpa [rawPart, rawInt] using hh
        exact h0 (by rw [this])
    refine wpAny_bind (wpAny_bind (wpAny_field hos hds (x := vs) rfl (wpAny_bind (wpAny_listPart ps ?_))))
    rw [if_neg hstep]
    refine wpAny_bind (wpAny_field hos hds (x := vl) rfl (wpAny_bind (wpAny_listPart pl ?_)))
    refine wpAny_bind (wpAny_field hos hds (x := vu) rfl (wpAny_bind (wpAny_listPart pu (wpAny_pure ?_))))
    refine wpAny_bind (m := Builtin.List.listItems (.ref l)) ?_
    · unfold Builtin.List.listItems
      refine wpAny_bind (wpAny_seqItems ho hd (wpAny_pure ?_))
      refine wpAny_bind (wpAny_of_eq (sliceIndices_raw lo hi st items.size h0) ?_)
      exact wpAny_bind (wpAny_newObj_type (wpAny_pure h) hsz)
end
end Mine
end
section
set_option maxRecDepth 100000
set_option linter.unusedVariables false
open PySem PySem.W PySem.Calls PyProof.Rows
open PySem.Sem (wp)
namespace Mine
noncomputable section
noncomputable def sh1106 (P : Params) (uu : Nat) (x0 : Value) : Obj := (dcO #[(en P "name" (uu + 11 + 1837) (sv "state" (uu + 2 + 1837))), (en P "next_number" (uu + 14 + 1837) (iv 0 (uu + 12 + 1837))), (en P "sent" (uu + 16 + 1837) (.ref 1109)), (en P "largest_acked" (uu + 18 + 1837) .none), (en P "acked" (uu + 20 + 1837) (.ref 1110)), (en P "last_eliciting_time" (uu + 22 + 1837) .none), (en P "loss_time" (uu + 24 + 1837) .none), (en P "received" (uu + 26 + 1837) (.ref 1111)), (en P "largest_seen" (uu + 28 + 1837) .none), (en P "largest_time" (uu + 30 + 1837) .none), (en P "floor" (uu + 33 + 1837) (iv 0 (uu + 31 + 1837))), (en P "first_unacked" (uu + 35 + 1837) .none), (en P "unacked" (uu + 38 + 1837) (iv 0 (uu + 36 + 1837))), (en P "wants_now" (uu + 40 + 1837) (.bool false)), (en P "has_new" (uu + 42 + 1837) (.bool false)), (en P "ecn" (uu + 47 + 1837) (.ref 1112)), (en P "is_gone" (uu + 49 + 1837) (.bool false)), (en P "spaces" (uu + 433 + 1837) (.ref 1212)), (en P "crypto_out" (uu + 435 + 1837) (.ref 1241)), (en P "keys" (uu + 452 + 1837) (.ref 1251)), (en P "probes" (uu + 454 + 1837) (.ref 1260)), (en P "rtt" (uu + 544 + 1837) (.ref 1271)), (en P "control" (uu + 546 + 1837) (.ref 1274)), (en P "own_cid" (uu + 548 + 1837) (.bytes #[111, 119, 110] (uu + 495 + 1837))), (en P "paths" (uu + 550 + 1837) (.ref 1288)), (en P "remote" (uu + 558 + 1837) (.ref 1114)), (en P "idle" (uu + 560 + 1837) (.ref 1121)), (en P "streams" (uu + 562 + 1837) (.ref 1128)), (en P "shake" (uu + 564 + 1837) (.ref 1135)), (en P "config" (uu + 566 + 1837) (.ref 1300)), (en P "owed" (uu + 572 + 1837) (.ref 1305)), (en P "probe_count" (uu + 574 + 1837) (iv 0 (uu + 567 + 1837))), (en P "timer" (uu + 576 + 1837) x0), (en P "elder" (uu + 578 + 1837) .none), (en P "is_client" (uu + 590 + 1837) (.ref 1317)), (en P "most_delay" (uu + 592 + 1837) (.ref 1324))] 36)
noncomputable def sh1186 (P : Params) (uu : Nat) (x0 : Value) : Obj := (dcO #[(en P "name" (uu + 268 + 1837) (sv "initial" (uu + 260 + 1837))), (en P "next_number" (uu + 271 + 1837) (iv 0 (uu + 269 + 1837))), (en P "sent" (uu + 273 + 1837) (.ref 1189)), (en P "largest_acked" (uu + 275 + 1837) .none), (en P "acked" (uu + 277 + 1837) (.ref 1190)), (en P "last_eliciting_time" (uu + 279 + 1837) .none), (en P "loss_time" (uu + 281 + 1837) .none), (en P "received" (uu + 283 + 1837) (.ref 1191)), (en P "largest_seen" (uu + 285 + 1837) .none), (en P "largest_time" (uu + 287 + 1837) .none), (en P "floor" (uu + 290 + 1837) (iv 0 (uu + 288 + 1837))), (en P "first_unacked" (uu + 292 + 1837) .none), (en P "unacked" (uu + 295 + 1837) (iv 0 (uu + 293 + 1837))), (en P "wants_now" (uu + 297 + 1837) (.bool false)), (en P "has_new" (uu + 299 + 1837) (.bool false)), (en P "ecn" (uu + 304 + 1837) (.ref 1192)), (en P "is_gone" (uu + 306 + 1837) x0)] 17)
noncomputable def sh1202 (P : Params) (uu : Nat) (x0 x1 x2 x3 x4 x5 x6 x7 x8 : Value) : Obj := (dcO #[(en P "name" (uu + 354 + 1837) (sv "application" (uu + 262 + 1837))), (en P "next_number" (uu + 357 + 1837) x0), (en P "sent" (uu + 359 + 1837) (.ref 1205)), (en P "largest_acked" (uu + 361 + 1837) .none), (en P "acked" (uu + 363 + 1837) (.ref 1206)), (en P "last_eliciting_time" (uu + 365 + 1837) x1), (en P "loss_time" (uu + 367 + 1837) .none), (en P "received" (uu + 369 + 1837) x2), (en P "largest_seen" (uu + 371 + 1837) x3), (en P "largest_time" (uu + 373 + 1837) x4), (en P "floor" (uu + 376 + 1837) (iv 0 (uu + 374 + 1837))), (en P "first_unacked" (uu + 378 + 1837) x5), (en P "unacked" (uu + 381 + 1837) x6), (en P "wants_now" (uu + 383 + 1837) x7), (en P "has_new" (uu + 385 + 1837) x8), (en P "ecn" (uu + 390 + 1837) (.ref 1208)), (en P "is_gone" (uu + 392 + 1837) (.bool false))] 17)
noncomputable def sh1221 (P : Params) (uu : Nat) (x0 x1 : Value) : Obj := (dcO #[(en P "data" (uu + 403 + 1837) x0), (en P "due" (uu + 405 + 1837) x1), (en P "acked" (uu + 407 + 1837) (.ref 1225))] 3)
noncomputable def sh1260 (P : Params) (uu : Nat) (x0 x1 : Value) : Obj := (dcO #[(en P "initial" (uu + 260 + 1837) (iv 0 (uu + 440 + 1837))), (en P "handshake" (uu + 261 + 1837) x0), (en P "application" (uu + 262 + 1837) x1)] 3)
noncomputable def sh1273 (P : Params) (uu : Nat) (x0 : Value) : Obj := (dcO #[(en P "datagram" (uu + 479 + 1837) (iv 1200 (uu + 475 + 1837))), (en P "window" (uu + 484 + 1837) (iv 12000 (uu + 481 + 1837))), (en P "threshold" (uu + 486 + 1837) .none), (en P "recovery_at" (uu + 488 + 1837) .none), (en P "in_flight" (uu + 491 + 1837) x0), (en P "credit" (uu + 494 + 1837) (iv 0 (uu + 492 + 1837)))] 6)
noncomputable def sh1287 (P : Params) (uu : Nat) (x0 : Value) : Obj := (dcO #[(en P "role" (uu + 504 + 1837) (sv "server" (uu + 496 + 1837))), (en P "may_move" (uu + 506 + 1837) (.bool true)), (en P "known" (uu + 529 + 1837) (.ref 1294)), (en P "active" (uu + 533 + 1837) (.ref 1291)), (en P "last_proven" (uu + 536 + 1837) (.ref 1291)), (en P "highest" (uu + 540 + 1837) (.int (Int.negSucc 0) (uu + 538 + 1837))), (en P "answers" (uu + 542 + 1837) x0)] 7)
noncomputable def sh1349 (P : Params) (ua : Nat) (x0 x1 : Value) : Obj := (dcO #[(en P "address" (ua + 25 + 1837) (sv "away" (ua + 1 + 1837))), (en P "state" (ua + 27 + 1837) (sv "unproven" 1188)), (en P "is_free" (ua + 29 + 1837) (.bool false)), (en P "received" (ua + 32 + 1837) x0), (en P "sent" (ua + 35 + 1837) x1), (en P "challenges" (ua + 37 + 1837) (.ref 1352)), (en P "deadline" (ua + 39 + 1837) .none), (en P "wants_more" (ua + 41 + 1837) (.bool false))] 8)
noncomputable def loc2 (P : Params) (k0 : Nat) (x0 : Value) (k1 : Nat) (x1 : Value) : Obj := ⟨.type "frame", none, .dict #[(en P "script" k0 x0), (en P "conn" k1 x1)] 2, #[]⟩
noncomputable def loc4 (P : Params) (k0 : Nat) (x0 : Value) (k1 : Nat) (x1 : Value) (k2 : Nat) (x2 : Value) (k3 : Nat) (x3 : Value) : Obj := ⟨.type "frame", none, .dict #[(en P "script" k0 x0), (en P "conn" k1 x1), (en P "came" k2 x2), (en P "place" k3 x3)] 4, #[]⟩
noncomputable def loc5 (P : Params) (k0 : Nat) (x0 : Value) (k1 : Nat) (x1 : Value) (k2 : Nat) (x2 : Value) (k3 : Nat) (x3 : Value) (k4 : Nat) (x4 : Value) : Obj := ⟨.type "frame", none, .dict #[(en P "script" k0 x0), (en P "conn" k1 x1), (en P "came" k2 x2), (en P "place" k3 x3), (en P "answers" k4 x4)] 5, #[]⟩
noncomputable def loc8 (P : Params) (k0 : Nat) (x0 : Value) (k1 : Nat) (x1 : Value) (k2 : Nat) (x2 : Value) (k3 : Nat) (x3 : Value) (k4 : Nat) (x4 : Value) (k5 : Nat) (x5 : Value) (k6 : Nat) (x6 : Value) (k7 : Nat) (x7 : Value) : Obj := ⟨.type "frame", none, .dict #[(en P "script" k0 x0), (en P "conn" k1 x1), (en P "came" k2 x2), (en P "place" k3 x3), (en P "answers" k4 x4), (en P "old" k5 x5), (en P "old_data" k6 x6), (en P "has_ack" k7 x7)] 8, #[]⟩
noncomputable def loc9 (P : Params) (k0 : Nat) (x0 : Value) (k1 : Nat) (x1 : Value) (k2 : Nat) (x2 : Value) (k3 : Nat) (x3 : Value) (k4 : Nat) (x4 : Value) (k5 : Nat) (x5 : Value) (k6 : Nat) (x6 : Value) (k7 : Nat) (x7 : Value) (k8 : Nat) (x8 : Value) : Obj := ⟨.type "frame", none, .dict #[(en P "script" k0 x0), (en P "conn" k1 x1), (en P "came" k2 x2), (en P "place" k3 x3), (en P "answers" k4 x4), (en P "old" k5 x5), (en P "old_data" k6 x6), (en P "has_ack" k7 x7), (en P "waits" k8 x8)] 9, #[]⟩
noncomputable def loc10 (P : Params) (k0 : Nat) (x0 : Value) (k1 : Nat) (x1 : Value) (k2 : Nat) (x2 : Value) (k3 : Nat) (x3 : Value) (k4 : Nat) (x4 : Value) (k5 : Nat) (x5 : Value) (k6 : Nat) (x6 : Value) (k7 : Nat) (x7 : Value) (k8 : Nat) (x8 : Value) (k9 : Nat) (x9 : Value) : Obj := ⟨.type "frame", none, .dict #[(en P "script" k0 x0), (en P "conn" k1 x1), (en P "came" k2 x2), (en P "place" k3 x3), (en P "answers" k4 x4), (en P "old" k5 x5), (en P "old_data" k6 x6), (en P "has_ack" k7 x7), (en P "waits" k8 x8), (en P "goes" k9 x9)] 10, #[]⟩
noncomputable def loc11 (P : Params) (k0 : Nat) (x0 : Value) (k1 : Nat) (x1 : Value) (k2 : Nat) (x2 : Value) (k3 : Nat) (x3 : Value) (k4 : Nat) (x4 : Value) (k5 : Nat) (x5 : Value) (k6 : Nat) (x6 : Value) (k7 : Nat) (x7 : Value) (k8 : Nat) (x8 : Value) (k9 : Nat) (x9 : Value) (k10 : Nat) (x10 : Value) : Obj := ⟨.type "frame", none, .dict #[(en P "script" k0 x0), (en P "conn" k1 x1), (en P "came" k2 x2), (en P "place" k3 x3), (en P "answers" k4 x4), (en P "old" k5 x5), (en P "old_data" k6 x6), (en P "has_ack" k7 x7), (en P "waits" k8 x8), (en P "goes" k9 x9), (en P "told" k10 x10)] 11, #[]⟩
noncomputable def loc12 (P : Params) (k0 : Nat) (x0 : Value) (k1 : Nat) (x1 : Value) (k2 : Nat) (x2 : Value) (k3 : Nat) (x3 : Value) (k4 : Nat) (x4 : Value) (k5 : Nat) (x5 : Value) (k6 : Nat) (x6 : Value) (k7 : Nat) (x7 : Value) (k8 : Nat) (x8 : Value) (k9 : Nat) (x9 : Value) (k10 : Nat) (x10 : Value) (k11 : Nat) (x11 : Value) : Obj := ⟨.type "frame", none, .dict #[(en P "script" k0 x0), (en P "conn" k1 x1), (en P "came" k2 x2), (en P "place" k3 x3), (en P "answers" k4 x4), (en P "old" k5 x5), (en P "old_data" k6 x6), (en P "has_ack" k7 x7), (en P "waits" k8 x8), (en P "goes" k9 x9), (en P "told" k10 x10), (en P "stays" k11 x11)] 12, #[]⟩
noncomputable def o_1096 (P : Params) (uu : Nat) : Obj := ⟨(.type "cell"), none, (.cell (some (.ref 1100))), #[]⟩
noncomputable def o_1107 (P : Params) (uu : Nat) : Obj := ⟨(.ref 1065), (some 1106), .plain, #[]⟩
noncomputable def o_1113 (P : Params) (uu : Nat) : Obj := (dcO #[(en P "name" (uu + 54 + 1837) (sv "remote" (uu + 3 + 1837))), (en P "next_number" (uu + 57 + 1837) (iv 0 (uu + 55 + 1837))), (en P "sent" (uu + 59 + 1837) (.ref 1116)), (en P "largest_acked" (uu + 61 + 1837) .none), (en P "acked" (uu + 63 + 1837) (.ref 1117)), (en P "last_eliciting_time" (uu + 65 + 1837) .none), (en P "loss_time" (uu + 67 + 1837) .none), (en P "received" (uu + 69 + 1837) (.ref 1118)), (en P "largest_seen" (uu + 71 + 1837) .none), (en P "largest_time" (uu + 73 + 1837) .none), (en P "floor" (uu + 76 + 1837) (iv 0 (uu + 74 + 1837))), (en P "first_unacked" (uu + 78 + 1837) .none), (en P "unacked" (uu + 81 + 1837) (iv 0 (uu + 79 + 1837))), (en P "wants_now" (uu + 83 + 1837) (.bool false)), (en P "has_new" (uu + 85 + 1837) (.bool false)), (en P "ecn" (uu + 90 + 1837) (.ref 1119)), (en P "is_gone" (uu + 92 + 1837) (.bool false)), (en P "present" (uu + 240 + 1837) (.ref 1152))] 18)
noncomputable def o_1114 (P : Params) (uu : Nat) : Obj := ⟨(.ref 1065), (some 1113), .plain, #[]⟩
noncomputable def o_1120 (P : Params) (uu : Nat) : Obj := (dcO #[(en P "name" (uu + 97 + 1837) (sv "idle" (uu + 4 + 1837))), (en P "next_number" (uu + 100 + 1837) (iv 0 (uu + 98 + 1837))), (en P "sent" (uu + 102 + 1837) (.ref 1123)), (en P "largest_acked" (uu + 104 + 1837) .none), (en P "acked" (uu + 106 + 1837) (.ref 1124)), (en P "last_eliciting_time" (uu + 108 + 1837) .none), (en P "loss_time" (uu + 110 + 1837) .none), (en P "received" (uu + 112 + 1837) (.ref 1125)), (en P "largest_seen" (uu + 114 + 1837) .none), (en P "largest_time" (uu + 116 + 1837) .none), (en P "floor" (uu + 119 + 1837) (iv 0 (uu + 117 + 1837))), (en P "first_unacked" (uu + 121 + 1837) .none), (en P "unacked" (uu + 124 + 1837) (iv 0 (uu + 122 + 1837))), (en P "wants_now" (uu + 126 + 1837) (.bool false)), (en P "has_new" (uu + 128 + 1837) (.bool false)), (en P "ecn" (uu + 133 + 1837) (.ref 1126)), (en P "is_gone" (uu + 135 + 1837) (.bool false)), (en P "on_sent" (uu + 242 + 1837) (.ref 1159))] 18)
noncomputable def o_1121 (P : Params) (uu : Nat) : Obj := ⟨(.ref 1065), (some 1120), .plain, #[]⟩
noncomputable def o_1127 (P : Params) (uu : Nat) : Obj := (dcO #[(en P "name" (uu + 140 + 1837) (sv "streams" (uu + 5 + 1837))), (en P "next_number" (uu + 143 + 1837) (iv 0 (uu + 141 + 1837))), (en P "sent" (uu + 145 + 1837) (.ref 1130)), (en P "largest_acked" (uu + 147 + 1837) .none), (en P "acked" (uu + 149 + 1837) (.ref 1131)), (en P "last_eliciting_time" (uu + 151 + 1837) .none), (en P "loss_time" (uu + 153 + 1837) .none), (en P "received" (uu + 155 + 1837) (.ref 1132)), (en P "largest_seen" (uu + 157 + 1837) .none), (en P "largest_time" (uu + 159 + 1837) .none), (en P "floor" (uu + 162 + 1837) (iv 0 (uu + 160 + 1837))), (en P "first_unacked" (uu + 164 + 1837) .none), (en P "unacked" (uu + 167 + 1837) (iv 0 (uu + 165 + 1837))), (en P "wants_now" (uu + 169 + 1837) (.bool false)), (en P "has_new" (uu + 171 + 1837) (.bool false)), (en P "ecn" (uu + 176 + 1837) (.ref 1133)), (en P "is_gone" (uu + 178 + 1837) (.bool false)), (en P "has_data" (uu + 255 + 1837) (.ref 1170))] 18)
noncomputable def o_1128 (P : Params) (uu : Nat) : Obj := ⟨(.ref 1065), (some 1127), .plain, #[]⟩
noncomputable def o_1134 (P : Params) (uu : Nat) : Obj := (dcO #[(en P "name" (uu + 183 + 1837) (sv "shake" (uu + 6 + 1837))), (en P "next_number" (uu + 186 + 1837) (iv 0 (uu + 184 + 1837))), (en P "sent" (uu + 188 + 1837) (.ref 1137)), (en P "largest_acked" (uu + 190 + 1837) .none), (en P "acked" (uu + 192 + 1837) (.ref 1138)), (en P "last_eliciting_time" (uu + 194 + 1837) .none), (en P "loss_time" (uu + 196 + 1837) .none), (en P "received" (uu + 198 + 1837) (.ref 1139)), (en P "largest_seen" (uu + 200 + 1837) .none), (en P "largest_time" (uu + 202 + 1837) .none), (en P "floor" (uu + 205 + 1837) (iv 0 (uu + 203 + 1837))), (en P "first_unacked" (uu + 207 + 1837) .none), (en P "unacked" (uu + 210 + 1837) (iv 0 (uu + 208 + 1837))), (en P "wants_now" (uu + 212 + 1837) (.bool false)), (en P "has_new" (uu + 214 + 1837) (.bool false)), (en P "ecn" (uu + 219 + 1837) (.ref 1140)), (en P "is_gone" (uu + 221 + 1837) (.bool false)), (en P "is_confirmed" (uu + 257 + 1837) (.bool true)), (en P "can_send" (uu + 259 + 1837) (.ref 1177))] 19)
noncomputable def o_1135 (P : Params) (uu : Nat) : Obj := ⟨(.ref 1065), (some 1134), .plain, #[]⟩
noncomputable def o_1151 (P : Params) (uu : Nat) : Obj := (cdO #[(sv "<lambda>" (uu + 227 + 1837)), (sv "_law_state.<locals>.<lambda>" (uu + 228 + 1837)), (sv "/claim/cut.py" (uu + 229 + 1837)), (iv 759 0), (iv 0 0), (iv 0 0), (iv 0 0), (iv 19 0), (.ref 1146), (.bool true), (iv 181 0), (.ref 1147), .none, (.ref 1148), (.ref 1149), (.ref 1150), (.int (Int.ofNat (uu + 230 + 1837)) 0), (iv 759 0), (sv "/claim/cut.py" (uu + 231 + 1837))])
noncomputable def o_1152 (P : Params) (uu : Nat) : Obj := (fnO ⟨(Str.ofString "<lambda>"), (Str.ofString "_law_state.<locals>.<lambda>"), lamA (tupN (asgV (nthS 1 (fdBody (stm 151)))) 0), (.expr (lamB (tupN (asgV (nthS 1 (fdBody (stm 151)))) 0))), lamS (tupN (asgV (nthS 1 (fdBody (stm 151)))) 0), 3, [], .none, .none, .none, (sv "law_pf0282_01" 1815), none, (.ref 1151), .none, 0⟩)
noncomputable def o_1158 (P : Params) (uu : Nat) : Obj := (cdO #[(sv "<lambda>" (uu + 232 + 1837)), (sv "_law_state.<locals>.<lambda>" (uu + 233 + 1837)), (sv "/claim/cut.py" (uu + 234 + 1837)), (iv 760 0), (iv 2 0), (iv 0 0), (iv 0 0), (iv 19 0), (.ref 1153), (.bool true), (iv 181 0), (.ref 1154), .none, (.ref 1155), (.ref 1156), (.ref 1157), (.int (Int.ofNat (uu + 237 + 1837)) 0), (iv 760 0), (sv "/claim/cut.py" (uu + 238 + 1837))])
noncomputable def o_1159 (P : Params) (uu : Nat) : Obj := (fnO ⟨(Str.ofString "<lambda>"), (Str.ofString "_law_state.<locals>.<lambda>"), lamA (tupN (asgV (nthS 1 (fdBody (stm 151)))) 1), (.expr (lamB (tupN (asgV (nthS 1 (fdBody (stm 151)))) 1))), lamS (tupN (asgV (nthS 1 (fdBody (stm 151)))) 1), 3, [], .none, .none, .none, (sv "law_pf0282_01" 1815), none, (.ref 1158), .none, 0⟩)
noncomputable def o_1169 (P : Params) (uu : Nat) : Obj := (cdO #[(sv "<lambda>" (uu + 243 + 1837)), (sv "_law_state.<locals>.<lambda>" (uu + 244 + 1837)), (sv "/claim/cut.py" (uu + 245 + 1837)), (iv 762 0), (iv 0 0), (iv 0 0), (iv 0 0), (iv 19 0), (.ref 1164), (.bool true), (iv 181 0), (.ref 1165), .none, (.ref 1166), (.ref 1167), (.ref 1168), (.int (Int.ofNat (uu + 246 + 1837)) 0), (iv 762 0), (sv "/claim/cut.py" (uu + 247 + 1837))])
noncomputable def o_1170 (P : Params) (uu : Nat) : Obj := (fnO ⟨(Str.ofString "<lambda>"), (Str.ofString "_law_state.<locals>.<lambda>"), lamA (tupN (asgV (nthS 2 (fdBody (stm 151)))) 0), (.expr (lamB (tupN (asgV (nthS 2 (fdBody (stm 151)))) 0))), lamS (tupN (asgV (nthS 2 (fdBody (stm 151)))) 0), 3, [], .none, .none, .none, (sv "law_pf0282_01" 1815), none, (.ref 1169), .none, 0⟩)
noncomputable def o_1176 (P : Params) (uu : Nat) : Obj := (cdO #[(sv "<lambda>" (uu + 248 + 1837)), (sv "_law_state.<locals>.<lambda>" (uu + 249 + 1837)), (sv "/claim/cut.py" (uu + 250 + 1837)), (iv 763 0), (iv 1 0), (iv 0 0), (iv 0 0), (iv 19 0), (.ref 1171), (.bool true), (iv 181 0), (.ref 1172), .none, (.ref 1173), (.ref 1174), (.ref 1175), (.int (Int.ofNat (uu + 252 + 1837)) 0), (iv 763 0), (sv "/claim/cut.py" (uu + 253 + 1837))])
noncomputable def o_1177 (P : Params) (uu : Nat) : Obj := (fnO ⟨(Str.ofString "<lambda>"), (Str.ofString "_law_state.<locals>.<lambda>"), lamA (tupN (asgV (nthS 2 (fdBody (stm 151)))) 2), (.expr (lamB (tupN (asgV (nthS 2 (fdBody (stm 151)))) 2))), lamS (tupN (asgV (nthS 2 (fdBody (stm 151)))) 2), 3, [], .none, .none, .none, (sv "law_pf0282_01" 1815), none, (.ref 1176), .none, 0⟩)
noncomputable def o_1187 (P : Params) (uu : Nat) : Obj := ⟨(.ref 1065), (some 1186), .plain, #[]⟩
noncomputable def o_1189 (P : Params) (uu : Nat) : Obj := (dcO #[] 0)
noncomputable def o_1194 (P : Params) (uu : Nat) : Obj := (dcO #[(en P "name" (uu + 311 + 1837) (sv "handshake" (uu + 261 + 1837))), (en P "next_number" (uu + 314 + 1837) (iv 0 (uu + 312 + 1837))), (en P "sent" (uu + 316 + 1837) (.ref 1197)), (en P "largest_acked" (uu + 318 + 1837) .none), (en P "acked" (uu + 320 + 1837) (.ref 1198)), (en P "last_eliciting_time" (uu + 322 + 1837) .none), (en P "loss_time" (uu + 324 + 1837) .none), (en P "received" (uu + 326 + 1837) (.ref 1199)), (en P "largest_seen" (uu + 328 + 1837) .none), (en P "largest_time" (uu + 330 + 1837) .none), (en P "floor" (uu + 333 + 1837) (iv 0 (uu + 331 + 1837))), (en P "first_unacked" (uu + 335 + 1837) .none), (en P "unacked" (uu + 338 + 1837) (iv 0 (uu + 336 + 1837))), (en P "wants_now" (uu + 340 + 1837) (.bool false)), (en P "has_new" (uu + 342 + 1837) (.bool false)), (en P "ecn" (uu + 347 + 1837) (.ref 1200)), (en P "is_gone" (uu + 349 + 1837) (.bool false))] 17)
noncomputable def o_1195 (P : Params) (uu : Nat) : Obj := ⟨(.ref 1065), (some 1194), .plain, #[]⟩
noncomputable def o_1197 (P : Params) (uu : Nat) : Obj := (dcO #[] 0)
noncomputable def o_1203 (P : Params) (uu : Nat) : Obj := ⟨(.ref 1065), (some 1202), .plain, #[]⟩
noncomputable def o_1207 (P : Params) (uu : Nat) : Obj := ⟨(.type "list"), none, (.seq #[] 0), #[]⟩
noncomputable def o_1212 (P : Params) (uu : Nat) : Obj := (dcO #[(en P "initial" (uu + 260 + 1837) (.ref 1187)), (en P "handshake" (uu + 261 + 1837) (.ref 1195)), (en P "application" (uu + 262 + 1837) (.ref 1203))] 3)
noncomputable def o_1222 (P : Params) (uu : Nat) : Obj := ⟨(.ref 518), (some 1221), .plain, #[]⟩
noncomputable def o_1224 (P : Params) (uu : Nat) : Obj := ⟨(.type "list"), none, (.seq #[] 0), #[]⟩
noncomputable def o_1227 (P : Params) (uu : Nat) : Obj := (dcO #[(en P "data" (uu + 412 + 1837) (.bytes #[] (uu + 410 + 1837))), (en P "due" (uu + 414 + 1837) (.ref 1230)), (en P "acked" (uu + 416 + 1837) (.ref 1231))] 3)
noncomputable def o_1228 (P : Params) (uu : Nat) : Obj := ⟨(.ref 518), (some 1227), .plain, #[]⟩
noncomputable def o_1230 (P : Params) (uu : Nat) : Obj := ⟨(.type "list"), none, (.seq #[] 0), #[]⟩
noncomputable def o_1233 (P : Params) (uu : Nat) : Obj := (dcO #[(en P "data" (uu + 421 + 1837) (.bytes #[] (uu + 419 + 1837))), (en P "due" (uu + 423 + 1837) (.ref 1236)), (en P "acked" (uu + 425 + 1837) (.ref 1237))] 3)
noncomputable def o_1234 (P : Params) (uu : Nat) : Obj := ⟨(.ref 518), (some 1233), .plain, #[]⟩
noncomputable def o_1236 (P : Params) (uu : Nat) : Obj := ⟨(.type "list"), none, (.seq #[] 0), #[]⟩
noncomputable def o_1241 (P : Params) (uu : Nat) : Obj := (dcO #[(en P "initial" (uu + 260 + 1837) (.ref 1222)), (en P "handshake" (uu + 261 + 1837) (.ref 1228)), (en P "application" (uu + 262 + 1837) (.ref 1234))] 3)
noncomputable def o_1251 (P : Params) (uu : Nat) : Obj := (dcO #[(en P "application" (uu + 436 + 1837) (.bytes #[107] (uu + 437 + 1837)))] 1)
noncomputable def o_1270 (P : Params) (uu : Nat) : Obj := (dcO #[(en P "since" (uu + 458 + 1837) .none), (en P "latest" (uu + 461 + 1837) (iv 0 (uu + 459 + 1837))), (en P "least" (uu + 464 + 1837) (iv 0 (uu + 462 + 1837))), (en P "smoothed8" (uu + 468 + 1837) (iv 2664000 (uu + 466 + 1837))), (en P "variance4" (uu + 472 + 1837) (iv 666000 (uu + 470 + 1837))), (en P "first_at" (uu + 474 + 1837) .none)] 6)
noncomputable def o_1271 (P : Params) (uu : Nat) : Obj := ⟨(.ref 883), (some 1270), .plain, #[]⟩
noncomputable def o_1274 (P : Params) (uu : Nat) : Obj := ⟨(.ref 616), (some 1273), .plain, #[]⟩
noncomputable def o_1288 (P : Params) (uu : Nat) : Obj := ⟨(.ref 819), (some 1287), .plain, #[]⟩
noncomputable def o_1290 (P : Params) (uu : Nat) : Obj := (dcO #[(en P "address" (uu + 511 + 1837) (sv "home" (uu + 497 + 1837))), (en P "state" (uu + 513 + 1837) (sv "proven" 1192)), (en P "is_free" (uu + 515 + 1837) (.bool true)), (en P "received" (uu + 518 + 1837) (iv 0 (uu + 516 + 1837))), (en P "sent" (uu + 521 + 1837) (iv 0 (uu + 519 + 1837))), (en P "challenges" (uu + 523 + 1837) (.ref 1293)), (en P "deadline" (uu + 525 + 1837) .none), (en P "wants_more" (uu + 527 + 1837) (.bool false))] 8)
noncomputable def o_1291 (P : Params) (uu : Nat) : Obj := ⟨(.ref 700), (some 1290), .plain, #[]⟩
noncomputable def o_1300 (P : Params) (uu : Nat) : Obj := (dcO #[(en P "datagram" (uu + 551 + 1837) (iv 60 (uu + 552 + 1837))), (en P "initial" (uu + 553 + 1837) (iv 50 (uu + 554 + 1837)))] 2)
noncomputable def o_1306 (P : Params) (uu : Nat) : Obj := (tpO #[(iv 77 (uu + 568 + 1837)), (sv "application" (uu + 569 + 1837)), (sv "loss" (uu + 570 + 1837))] 0)
noncomputable def o_1316 (P : Params) (uu : Nat) : Obj := (cdO #[(sv "<lambda>" (uu + 579 + 1837)), (sv "_law_state.<locals>.<lambda>" (uu + 580 + 1837)), (sv "/claim/cut.py" (uu + 581 + 1837)), (iv 771 0), (iv 0 0), (iv 0 0), (iv 0 0), (iv 19 0), (.ref 1311), (.bool true), (iv 181 0), (.ref 1312), .none, (.ref 1313), (.ref 1314), (.ref 1315), (.int (Int.ofNat (uu + 582 + 1837)) 0), (iv 771 0), (sv "/claim/cut.py" (uu + 583 + 1837))])
noncomputable def o_1317 (P : Params) (uu : Nat) : Obj := (fnO ⟨(Str.ofString "<lambda>"), (Str.ofString "_law_state.<locals>.<lambda>"), lamA (tupN (asgV (nthS 9 (fdBody (stm 151)))) 0), (.expr (lamB (tupN (asgV (nthS 9 (fdBody (stm 151)))) 0))), lamS (tupN (asgV (nthS 9 (fdBody (stm 151)))) 0), 3, [], .none, .none, .none, (sv "law_pf0282_01" 1815), none, (.ref 1316), .none, 0⟩)
noncomputable def o_1323 (P : Params) (uu : Nat) : Obj := (cdO #[(sv "<lambda>" (uu + 584 + 1837)), (sv "_law_state.<locals>.<lambda>" (uu + 585 + 1837)), (sv "/claim/cut.py" (uu + 586 + 1837)), (iv 772 0), (iv 0 0), (iv 0 0), (iv 0 0), (iv 19 0), (.ref 1318), (.bool true), (iv 181 0), (.ref 1319), .none, (.ref 1320), (.ref 1321), (.ref 1322), (.int (Int.ofNat (uu + 587 + 1837)) 0), (iv 772 0), (sv "/claim/cut.py" (uu + 588 + 1837))])
noncomputable def o_1324 (P : Params) (uu : Nat) : Obj := (fnO ⟨(Str.ofString "<lambda>"), (Str.ofString "_law_state.<locals>.<lambda>"), lamA (tupN (asgV (nthS 9 (fdBody (stm 151)))) 1), (.expr (lamB (tupN (asgV (nthS 9 (fdBody (stm 151)))) 1))), lamS (tupN (asgV (nthS 9 (fdBody (stm 151)))) 1), 3, [], .none, .none, .none, (sv "law_pf0282_01" 1815), none, (.ref 1323), .none, 0⟩)
noncomputable def KI (P : Params) (uu : Nat) : Frag := [(1096, o_1096 P uu), (1107, o_1107 P uu), (1113, o_1113 P uu), (1114, o_1114 P uu), (1120, o_1120 P uu), (1121, o_1121 P uu), (1127, o_1127 P uu), (1128, o_1128 P uu), (1134, o_1134 P uu), (1135, o_1135 P uu), (1151, o_1151 P uu), (1152, o_1152 P uu), (1158, o_1158 P uu), (1159, o_1159 P uu), (1169, o_1169 P uu), (1170, o_1170 P uu), (1176, o_1176 P uu), (1177, o_1177 P uu), (1187, o_1187 P uu), (1189, o_1189 P uu), (1194, o_1194 P uu), (1195, o_1195 P uu), (1197, o_1197 P uu), (1203, o_1203 P uu), (1207, o_1207 P uu), (1212, o_1212 P uu), (1222, o_1222 P uu), (1224, o_1224 P uu), (1227, o_1227 P uu), (1228, o_1228 P uu), (1230, o_1230 P uu), (1233, o_1233 P uu), (1234, o_1234 P uu), (1236, o_1236 P uu), (1241, o_1241 P uu), (1251, o_1251 P uu), (1270, o_1270 P uu), (1271, o_1271 P uu), (1274, o_1274 P uu), (1288, o_1288 P uu), (1290, o_1290 P uu), (1291, o_1291 P uu), (1300, o_1300 P uu), (1306, o_1306 P uu), (1316, o_1316 P uu), (1317, o_1317 P uu), (1323, o_1323 P uu), (1324, o_1324 P uu)]
noncomputable def kt2 (P : Params) (uu : Nat) : X.KT := (.node (some (o_0 P)) (.node none (.node (some (o_3 P)) (.node none (.node none (.node none (.node none (.node none .nil (.node (some (o_383 P)) (.node none (.node (some (o_1151 P uu)) .nil .nil) .nil) .nil)) (.node none (.node none (.node none (.node (some (o_1087 P)) .nil .nil) .nil) .nil) (.node (some (o_447 P)) .nil .nil))) (.node none (.node none (.node none (.node (some (o_543 P)) .nil .nil) .nil) (.node (some (o_415 P)) .nil .nil)) (.node none .nil (.node (some (o_479 P)) .nil (.node (some (o_991 P)) .nil .nil))))) (.node (some (o_47 P)) (.node none (.node none (.node (some (o_271 P)) .nil .nil) (.node none (.node (some (o_655 P)) .nil .nil) .nil)) .nil) (.node none (.node (some (o_175 P)) .nil .nil) (.node none (.node (some (o_367 P)) (.node none (.node (some (o_1135 P uu)) .nil .nil) .nil) (.node (some (o_879 P)) .nil .nil)) .nil)))) (.node none (.node none (.node none (.node none .nil (.node none (.node (some (o_647 P)) (.node (some (o_1159 P uu)) .nil .nil) .nil) .nil)) .nil) (.node (some (o_103 P)) (.node none .nil (.node (some (o_423 P)) .nil .nil)) (.node (some (o_231 P)) (.node none (.node (some (o_615 P)) (.node (some (o_1127 P uu)) .nil .nil) .nil) .nil) (.node (some (o_487 P)) .nil .nil)))) (.node (some (o_55 P)) (.node (some (o_87 P)) (.node none (.node (some (o_279 P)) .nil .nil) .nil) (.node none .nil (.node none .nil (.node (some (o_983 P)) .nil .nil)))) (.node none (.node none .nil (.node (some (o_439 P)) (.node none (.node (some (o_1207 P uu)) .nil .nil) .nil) .nil)) (.node none (.node (some (o_375 P)) .nil .nil) (.node none (.node none (.node (some (o_1271 P uu)) .nil .nil) .nil) .nil)))))) (.node none (.node none (.node (some (o_35 P)) (.node none .nil (.node none .nil (.node (some (o_451 P)) .nil .nil))) (.node none (.node none .nil (.node none (.node none (.node (some (o_1187 P uu)) .nil .nil) .nil) .nil)) (.node none .nil (.node none (.node (some (o_739 P)) (.node (some (o_1251 P uu)) .nil .nil) .nil) .nil)))) (.node none (.node none .nil (.node none (.node (some (o_339 P)) (.node none (.node (some (o_1107 P uu)) .nil .nil) .nil) (.node (some (o_851 P)) .nil .nil)) .nil)) (.node none (.node none (.node (some (o_307 P)) (.node none (.node (some (o_1075 P)) .nil .nil) .nil) (.node (some (o_819 P)) .nil .nil)) (.node (some (o_435 P)) (.node none (.node (some (o_1203 P uu)) .nil .nil) .nil) .nil)) (.node (some (o_243 P)) (.node none .nil (.node (some (o_883 P)) .nil .nil)) .nil)))) (.node none (.node (some (o_43 P)) (.node (some (o_75 P)) (.node none (.node none (.node none (.node (some (o_1035 P)) .nil .nil) .nil) (.node none (.node (some (o_1291 P uu)) .nil .nil) .nil)) .nil) (.node none .nil (.node (some (o_459 P)) (.node none (.node (some (o_1227 P uu)) .nil .nil) .nil) .nil))) (.node none (.node none (.node (some (o_299 P)) .nil (.node none (.node (some (o_1323 P uu)) .nil .nil) .nil)) (.node (some (o_427 P)) (.node none (.node (some (o_1195 P uu)) .nil .nil) .nil) .nil)) .nil)) (.node none (.node none (.node (some (o_155 P)) .nil (.node none .nil (.node (some (o_923 P)) .nil .nil))) (.node none (.node (some (o_347 P)) .nil .nil) (.node none (.node (some (o_731 P)) .nil .nil) .nil))) (.node none (.node none (.node none (.node (some (o_571 P)) (.node (some (o_1083 P)) .nil .nil) .nil) .nil) (.node none (.node (some (o_699 P)) .nil .nil) (.node (some (o_955 P)) .nil .nil))) .nil))))) (.node none (.node none (.node none (.node none (.node none .nil (.node none (.node (some (o_321 P)) .nil .nil) .nil)) (.node (some (o_97 P)) (.node (some (o_161 P)) .nil .nil) (.node none (.node (some (o_353 P)) (.node none (.node (some (o_1121 P uu)) .nil .nil) .nil) .nil) .nil))) (.node none (.node none (.node none (.node none (.node (some (o_529 P)) .nil .nil) .nil) (.node (some (o_401 P)) (.node none (.node (some (o_1169 P uu)) .nil .nil) .nil) .nil)) (.node none .nil (.node (some (o_465 P)) (.node none (.node (some (o_1233 P uu)) .nil .nil) .nil) (.node (some (o_977 P)) .nil .nil)))) (.node (some (o_113 P)) (.node (some (o_177 P)) .nil .nil) .nil))) (.node none (.node none .nil (.node none (.node (some (o_169 P)) (.node none (.node none (.node (some (o_1065 P)) .nil .nil) .nil) .nil) .nil) (.node none (.node (some (o_361 P)) .nil .nil) .nil))) (.node none (.node (some (o_89 P)) (.node none .nil (.node (some (o_409 P)) (.node none (.node (some (o_1177 P uu)) .nil .nil) .nil) (.node (some (o_921 P)) .nil .nil))) (.node none (.node none (.node none (.node (some (o_1113 P uu)) .nil .nil) .nil) .nil) (.node none (.node none (.node (some (o_1241 P uu)) .nil .nil) .nil) .nil))) (.node none (.node none (.node (some (o_313 P)) .nil .nil) .nil) (.node none (.node none (.node (some (o_633 P)) .nil .nil) .nil) .nil))))) (.node none (.node none (.node none (.node (some (o_69 P)) (.node none (.node none (.node (some (o_517 P)) .nil .nil) .nil) (.node (some (o_389 P)) .nil (.node (some (o_901 P)) .nil .nil))) (.node none (.node (some (o_325 P)) (.node none (.node (some (o_1093 P)) .nil .nil) .nil) .nil) .nil)) (.node none (.node none (.node (some (o_293 P)) .nil (.node none (.node (some (o_1317 P uu)) .nil .nil) .nil)) (.node none (.node none (.node (some (o_1189 P uu)) .nil .nil) .nil) .nil)) .nil)) (.node none (.node none (.node none .nil (.node none (.node (some (o_661 P)) .nil .nil) .nil)) (.node none .nil (.node none (.node (some (o_725 P)) .nil .nil) .nil))) (.node none (.node (some (o_181 P)) .nil .nil) .nil))) (.node (some (o_29 P)) (.node none (.node none (.node none .nil (.node (some (o_397 P)) .nil .nil)) (.node none (.node (some (o_333 P)) .nil (.node (some (o_845 P)) .nil .nil)) (.node none (.node (some (o_717 P)) .nil .nil) .nil))) (.node (some (o_109 P)) (.node none .nil (.node none (.node none (.node (some (o_1197 P uu)) .nil .nil) .nil) (.node (some (o_941 P)) .nil .nil))) (.node (some (o_237 P)) .nil .nil))) (.node (some (o_61 P)) (.node none (.node none (.node (some (o_285 P)) .nil .nil) (.node none (.node (some (o_669 P)) .nil .nil) .nil)) .nil) (.node none .nil (.node none (.node (some (o_381 P)) .nil (.node (some (o_893 P)) .nil .nil)) .nil))))))) (.node (some (o_2 P)) (.node (some (o_4 P)) (.node none (.node none (.node none (.node none (.node none .nil (.node none (.node none (.node (some (o_1152 P uu)) .nil .nil) .nil) .nil)) (.node none (.node (some (o_320 P)) (.node none (.node (some (o_1088 P)) .nil .nil) .nil) .nil) .nil)) (.node (some (o_96 P)) (.node none .nil (.node (some (o_416 P)) .nil .nil)) (.node none (.node none (.node none (.node (some (o_1120 P uu)) .nil .nil) .nil) .nil) (.node (some (o_480 P)) .nil .nil)))) (.node (some (o_48 P)) (.node none (.node none (.node (some (o_272 P)) (.node (some (o_528 P)) .nil .nil) .nil) .nil) (.node none .nil (.node none .nil (.node (some (o_976 P)) .nil .nil)))) (.node none (.node (some (o_176 P)) .nil .nil) (.node none (.node (some (o_368 P)) .nil (.node (some (o_880 P)) .nil .nil)) .nil)))) (.node none (.node none (.node none (.node none (.node none .nil (.node none (.node (some (o_1288 P uu)) .nil .nil) .nil)) (.node none (.node (some (o_648 P)) .nil .nil) .nil)) (.node none (.node none (.node none (.node (some (o_1096 P uu)) .nil .nil) .nil) .nil) (.node none (.node none (.node (some (o_1224 P uu)) .nil .nil) .nil) .nil))) (.node (some (o_104 P)) (.node (some (o_168 P)) (.node none (.node none (.node (some (o_1064 P)) .nil .nil) .nil) .nil) .nil) (.node none (.node (some (o_360 P)) (.node (some (o_616 P)) (.node (some (o_1128 P uu)) .nil .nil) .nil) .nil) .nil))) (.node none (.node (some (o_88 P)) (.node none .nil (.node (some (o_408 P)) (.node none (.node (some (o_1176 P uu)) .nil .nil) .nil) (.node (some (o_920 P)) .nil .nil))) (.node none .nil (.node none .nil (.node (some (o_984 P)) .nil .nil)))) (.node none (.node none .nil (.node (some (o_440 P)) .nil .nil)) .nil)))) (.node none (.node none (.node (some (o_36 P)) (.node (some (o_68 P)) (.node none .nil (.node none .nil (.node (some (o_900 P)) .nil .nil))) (.node none (.node none (.node none (.node (some (o_1092 P)) .nil .nil) .nil) .nil) (.node (some (o_452 P)) .nil .nil))) (.node none (.node none (.node (some (o_292 P)) .nil (.node none (.node (some (o_1316 P uu)) .nil .nil) .nil)) .nil) .nil)) (.node none (.node none (.node none (.node none .nil (.node none (.node (some (o_1300 P uu)) .nil .nil) .nil)) .nil) (.node none (.node (some (o_340 P)) .nil (.node (some (o_852 P)) .nil .nil)) (.node none (.node (some (o_724 P)) (.node (some (o_1236 P uu)) .nil .nil) .nil) .nil))) (.node none (.node none (.node none (.node none (.node (some (o_1076 P)) .nil .nil) .nil) .nil) .nil) .nil))) (.node (some (o_28 P)) (.node none (.node (some (o_76 P)) (.node none (.node none (.node none (.node (some (o_1036 P)) .nil .nil) .nil) .nil) (.node (some (o_396 P)) .nil .nil)) (.node none (.node (some (o_332 P)) .nil (.node (some (o_844 P)) .nil .nil)) (.node none (.node none (.node (some (o_1228 P uu)) .nil .nil) .nil) .nil))) (.node (some (o_108 P)) (.node none (.node (some (o_300 P)) .nil (.node none (.node (some (o_1324 P uu)) .nil .nil) .nil)) (.node (some (o_428 P)) .nil .nil)) .nil)) (.node none (.node none (.node none .nil (.node none (.node (some (o_668 P)) .nil .nil) (.node (some (o_924 P)) .nil .nil))) (.node none .nil (.node none (.node (some (o_732 P)) .nil .nil) .nil))) (.node none (.node none .nil (.node none (.node (some (o_700 P)) (.node (some (o_1212 P uu)) .nil .nil) .nil) (.node (some (o_956 P)) .nil .nil))) .nil))))) (.node none (.node none (.node none (.node none .nil (.node none (.node (some (o_162 P)) .nil .nil) (.node none (.node (some (o_354 P)) .nil .nil) (.node none (.node (some (o_738 P)) .nil .nil) .nil)))) (.node none (.node none (.node none .nil (.node (some (o_402 P)) (.node none (.node (some (o_1170 P uu)) .nil .nil) .nil) .nil)) (.node none .nil (.node (some (o_466 P)) (.node none (.node (some (o_1234 P uu)) .nil .nil) .nil) .nil))) (.node (some (o_114 P)) (.node none (.node (some (o_306 P)) .nil (.node (some (o_818 P)) .nil .nil)) (.node (some (o_434 P)) .nil .nil)) (.node (some (o_242 P)) (.node none .nil (.node (some (o_882 P)) .nil .nil)) .nil)))) (.node none (.node (some (o_42 P)) (.node none (.node none (.node none .nil (.node none (.node (some (o_1290 P uu)) .nil .nil) .nil)) .nil) (.node none .nil (.node (some (o_458 P)) .nil .nil))) (.node none (.node none .nil (.node none (.node none (.node (some (o_1194 P uu)) .nil .nil) .nil) .nil)) .nil)) (.node none (.node (some (o_90 P)) (.node none (.node none .nil (.node none (.node (some (o_1306 P uu)) .nil .nil) .nil)) .nil) (.node none (.node (some (o_346 P)) (.node none (.node (some (o_1114 P uu)) .nil .nil) .nil) .nil) .nil)) (.node none (.node none (.node (some (o_314 P)) (.node (some (o_570 P)) (.node (some (o_1082 P)) .nil .nil) .nil) .nil) .nil) (.node none (.node none (.node (some (o_634 P)) .nil .nil) .nil) (.node none (.node none (.node (some (o_1274 P uu)) .nil .nil) .nil) .nil)))))) (.node none (.node (some (o_22 P)) (.node none (.node none (.node none (.node none (.node (some (o_518 P)) .nil .nil) .nil) (.node (some (o_390 P)) (.node none (.node (some (o_1158 P uu)) .nil .nil) .nil) .nil)) (.node none (.node (some (o_326 P)) .nil (.node (some (o_838 P)) .nil .nil)) (.node none (.node none (.node (some (o_1222 P uu)) .nil .nil) .nil) .nil))) (.node none (.node none .nil (.node (some (o_422 P)) .nil .nil)) (.node (some (o_230 P)) .nil (.node (some (o_486 P)) .nil .nil)))) (.node (some (o_54 P)) (.node none (.node none (.node (some (o_278 P)) .nil .nil) (.node none (.node (some (o_662 P)) .nil .nil) .nil)) .nil) (.node none (.node (some (o_182 P)) .nil .nil) (.node none (.node (some (o_374 P)) .nil .nil) (.node none (.node none (.node (some (o_1270 P uu)) .nil .nil) .nil) .nil))))) (.node none (.node none (.node none (.node none .nil (.node none (.node (some (o_654 P)) .nil .nil) .nil)) (.node none .nil (.node none (.node (some (o_718 P)) (.node (some (o_1230 P uu)) .nil .nil) .nil) .nil))) (.node none (.node none .nil (.node none .nil (.node (some (o_942 P)) .nil .nil))) (.node (some (o_238 P)) (.node none (.node none (.node (some (o_1134 P uu)) .nil .nil) .nil) .nil) .nil))) (.node (some (o_62 P)) (.node none (.node none (.node (some (o_286 P)) (.node (some (o_542 P)) .nil .nil) .nil) .nil) (.node none .nil (.node none .nil (.node (some (o_990 P)) .nil .nil)))) (.node none (.node none .nil (.node (some (o_446 P)) .nil .nil)) (.node none (.node (some (o_382 P)) .nil (.node (some (o_894 P)) .nil .nil)) .nil))))))))
end
end Mine
end
section
set_option maxRecDepth 100000
open PySem PySem.W PySem.Calls PyProof.Rows
open PySem.Sem (wp)
namespace Mine
noncomputable def decGo (n c l : Nat) : Nat := @Nat.rec (fun _ => Nat → Nat → Nat) (fun _ _ => 0)
  (fun _ ih c l => @Bool.rec (fun _ => Nat)
    (@Bool.rec (fun _ => Nat) (Nat.add (Nat.add (Nat.mul (Nat.sub (Nat.mod c 16) 12) 256) (Nat.mod (Nat.div c 16) 256)) (Nat.mul 1024 (ih (Nat.div c 4096) (Nat.add (Nat.mul (Nat.sub (Nat.mod c 16) 12) 256) (Nat.mod (Nat.div c 16) 256)))))
      (Nat.add (Nat.mod c 16) (Nat.mul 1024 (ih (Nat.div c 16) l))) (Nat.blt (Nat.mod c 16) 12))
    (Nat.add l (Nat.mul 1024 (ih (Nat.div c 16) l))) (Nat.beq (Nat.mod c 16) 0)) n c l
noncomputable def dec : List Nat → List Nat
  | [] => []
  | c :: l => decGo 60 c 0 :: dec l
noncomputable def forT : Stmt → Expr
  | .For t _ _ _ _ => t
  | _ => .Tuple [] 0 default
noncomputable def forB : Stmt → List Stmt
  | .For _ _ b _ _ => b
  | _ => []
noncomputable def forO : Stmt → List Stmt
  | .For _ _ _ o _ => o
  | _ => []
noncomputable abbrev tk (n : Nat) : Nat := n + 1837
noncomputable def gl : Nat → Nat → (Nat → Obj) → List Obj
  | 0, _, _ => []
  | n + 1, k, g => g k :: gl n (k + 1) g
theorem gl_congr {g g' : Nat → Obj} : ∀ (n k : Nat), (∀ i, k ≤ i → g i = g' i) → gl n k g = gl n k g'
  | 0, _, _ => rfl
  | n + 1, k, h => by
    show g k :: gl n (k + 1) g = g' k :: gl n (k + 1) g'
    rw [h k (Nat.le_refl _), gl_congr n (k + 1) fun i hi => h i (by omega)]
theorem gl_eq (d : Obj) : ∀ (l : List Obj) (k : Nat), l = gl l.length k (fun i => (l[i - k]?).getD d)
  | [], _ => rfl
  | a :: l, k => by
    show a :: l = ((a :: l)[k - k]?).getD d :: gl l.length (k + 1) _
    rw [Nat.sub_self, List.getElem?_cons_zero, Option.getD_some]
    congr 1
    refine (gl_eq d l (k + 1)).trans (gl_congr _ _ fun i hi => ?_)
    rw [show i - k = (i - (k + 1)) + 1 by omega, List.getElem?_cons_succ]
theorem gl_of {l : List Obj} {n : Nat} (h : l.length = n) : l = gl n 0 (fun i => (l[i - 0]?).getD ⟨.none, none, .plain, #[]⟩) := by
  subst h; exact gl_eq _ l 0
abbrev okR (r : St) : Prop := r.ob.left = r.ob.right
noncomputable abbrev ls (vs : Array Value) (k : Nat) : Obj := ⟨(.type "list"), none, (.seq vs k), #[]⟩
noncomputable abbrev frm (es : Array DictEntry) (k : Nat) : Obj := ⟨(.type "frame"), none, (.dict es k), #[]⟩
noncomputable abbrev lst (xs : Array Value) (cv : Nat) : Obj := ⟨(.type "list"), none, (.seq xs cv), #[]⟩
noncomputable abbrev box (k tb : Nat) : Obj := ⟨(.type "list"), none, (.seq #[(.ref 1099), (iv k (tb + 1837))] 0), #[]⟩
noncomputable abbrev Hs (s : Shared) (a : Nat) (o : Obj) : Prop := s.heap.get? a = some o
noncomputable def FB : List Nat := [1095, 1100, 1106, 1186, 1202, 1205, 1221, 1260, 1273, 1287, 1294, 1305]
theorem fb_kt (P : Params) (uu : Nat) : ∀ a ∈ FB, (kt2 P uu).get a = none :=
  fa_cons (by kernel_rfl) <| fa_cons (by kernel_rfl) <| fa_cons (by kernel_rfl) <| fa_cons (by kernel_rfl) <| fa_cons (by kernel_rfl) <| fa_cons (by kernel_rfl) <| fa_cons (by kernel_rfl) <| fa_cons (by kernel_rfl) <| fa_cons (by kernel_rfl) <| fa_cons (by kernel_rfl) <| fa_cons (by kernel_rfl) <| fa_cons (by kernel_rfl) <| fa_nil
theorem kb_of (P : Params) (uu : Nat) {l : List Nat} (h : ∀ a ∈ l, a ∈ FB ∨ 1333 ≤ a) : ∀ a ∈ l, (kt2 P uu).get a = none ∨ 1333 ≤ a := fun a ha => (h a ha).imp (fb_kt P uu a) id
theorem mc {h : Heap} {a : Nat} {o : Obj} {l : List Nat} {m : List Obj} (e : h.get? a = some o) (k : l.map h.get? = m.map some) : (a :: l).map h.get? = (o :: m).map some := by
  rw [List.map_cons, List.map_cons, e, k]
theorem mn {h : Heap} : ([] : List Nat).map h.get? = ([] : List Obj).map some := rfl
section
variable {α : Type} {a b c d e f g i j k l m n o p q r t u v w : α} {z : List α}
theorem m0 : a ∈ a :: z := .head _
theorem m1 : b ∈ a :: b :: z := .tail _ m0
theorem m2 : c ∈ a :: b :: c :: z := .tail _ m1
theorem m3 : d ∈ a :: b :: c :: d :: z := .tail _ m2
theorem m4 : e ∈ a :: b :: c :: d :: e :: z := .tail _ m3
theorem m5 : f ∈ a :: b :: c :: d :: e :: f :: z := .tail _ m4
theorem m6 : g ∈ a :: b :: c :: d :: e :: f :: g :: z := .tail _ m5
theorem m7 : i ∈ a :: b :: c :: d :: e :: f :: g :: i :: z := .tail _ m6
theorem m8 : j ∈ a :: b :: c :: d :: e :: f :: g :: i :: j :: z := .tail _ m7
theorem m9 : k ∈ a :: b :: c :: d :: e :: f :: g :: i :: j :: k :: z := .tail _ m8
theorem m10 : l ∈ a :: b :: c :: d :: e :: f :: g :: i :: j :: k :: l :: z := .tail _ m9
theorem m11 : m ∈ a :: b :: c :: d :: e :: f :: g :: i :: j :: k :: l :: m :: z := .tail _ m10
theorem m12 : n ∈ a :: b :: c :: d :: e :: f :: g :: i :: j :: k :: l :: m :: n :: z := .tail _ m11
theorem m13 : o ∈ a :: b :: c :: d :: e :: f :: g :: i :: j :: k :: l :: m :: n :: o :: z := .tail _ m12
theorem m14 : p ∈ a :: b :: c :: d :: e :: f :: g :: i :: j :: k :: l :: m :: n :: o :: p :: z := .tail _ m13
theorem m15 : q ∈ a :: b :: c :: d :: e :: f :: g :: i :: j :: k :: l :: m :: n :: o :: p :: q :: z := .tail _ m14
theorem m16 : r ∈ a :: b :: c :: d :: e :: f :: g :: i :: j :: k :: l :: m :: n :: o :: p :: q :: r :: z := .tail _ m15
theorem m17 : t ∈ a :: b :: c :: d :: e :: f :: g :: i :: j :: k :: l :: m :: n :: o :: p :: q :: r :: t :: z := .tail _ m16
end
end Mine
end
section
set_option maxRecDepth 100000
set_option linter.unusedVariables false
open PySem PySem.W PySem.Calls PyProof.Rows
open PySem.Sem (wp)
namespace Mine
noncomputable section
noncomputable def loc1 (P : Params) (k0 : Nat) (x0 : Value) : Obj := ⟨.type "frame", none, .dict #[(en P "script" k0 x0)] 1, #[]⟩
def r_p0 (w : World) (t u0_0 : Nat) (its : Array Value) (n0 n1 : Obj) (p : Pos) : St :=
  runE (VL w (kt w.params) [1094, 1095, 1096, 1085] 1097 t [] [⟨some [lawCode], .call (.builtin "list.__getitem__") ⟨[(.ref 1094), (.ref 1097)], []⟩, 1, 1, 0, [(0, (ls its 0)), (4, ⟨(.type "slice"), none, (.fields #[.none, (iv 16 (tk (t + 0))), .none]), #[]⟩)], (.ref 1098), [], [n0]⟩, ⟨some [lawCode], .call (.type "list") ⟨[(.ref 1098)], []⟩, 1, 2, 0, [(5, n0)], (.ref 1099), [], [n1]⟩] belL) 8593 [(0, (ls its 0)), (1, (loc2 w.params (tk u0_0) (.ref 1094) (tk (t + 593)) (.ref 1107))), (2, (o_1096 w.params t)), (3, ⟨.none, none, (.fields #[(iv 759 0), (iv 0 0), (.ref 1151), (iv 760 0), (iv 0 0), (.ref 1158), (iv 762 0), (iv 0 0), (.ref 1169), (iv 763 0), (iv 0 0), (.ref 1176), (iv 771 0), (iv 0 0), (.ref 1316), (iv 772 0), (iv 0 0), (.ref 1323)]), #[]⟩), (6, n1), (7, (ls #[(.ref 1099), (iv 0 (tk (t + 1)))] 0)), (13, (sh1106 w.params t (.ref 1306))), (14, (o_1107 w.params t)), (20, (o_1113 w.params t)), (21, (o_1114 w.params t)), (27, (o_1120 w.params t)), (28, (o_1121 w.params t)), (34, (o_1127 w.params t)), (35, (o_1128 w.params t)), (41, (o_1134 w.params t)), (42, (o_1135 w.params t)), (58, (o_1151 w.params t)), (59, (o_1152 w.params t)), (65, (o_1158 w.params t)), (66, (o_1159 w.params t)), (76, (o_1169 w.params t)), (77, (o_1170 w.params t)), (83, (o_1176 w.params t)), (84, (o_1177 w.params t)), (93, (sh1186 w.params t (.bool false))), (94, (o_1187 w.params t)), (96, (o_1189 w.params t)), (101, (o_1194 w.params t)), (102, (o_1195 w.params t)), (104, (o_1197 w.params t)), (109, (sh1202 w.params t (iv 0 (tk (t + 355))) .none (.ref 1207) .none .none .none (iv 0 (tk (t + 379))) (.bool false) (.bool false))), (110, (o_1203 w.params t)), (112, (dcO #[] 0)), (114, (o_1207 w.params t)), (119, (o_1212 w.params t)), (128, (sh1221 w.params t (.bytes #[] (tk (t + 401))) (.ref 1224))), (129, (o_1222 w.params t)), (131, (o_1224 w.params t)), (134, (o_1227 w.params t)), (135, (o_1228 w.params t)), (137, (o_1230 w.params t)), (140, (o_1233 w.params t)), (141, (o_1234 w.params t)), (143, (o_1236 w.params t)), (148, (o_1241 w.params t)), (158, (o_1251 w.params t)), (167, (sh1260 w.params t (iv 0 (tk (t + 442))) (iv 0 (tk (t + 444))))), (177, (o_1270 w.params t)), (178, (o_1271 w.params t)), (180, (sh1273 w.params t (iv 0 (tk (t + 489))))), (181, (o_1274 w.params t)), (194, (sh1287 w.params t (.ref 1295))), (195, (o_1288 w.params t)), (197, (o_1290 w.params t)), (198, (o_1291 w.params t)), (201, (ls #[(.ref 1291)] 0)), (207, (o_1300 w.params t)), (212, (ls #[] 0)), (213, (o_1306 w.params t)), (223, (o_1316 w.params t)), (224, (o_1317 w.params t)), (230, (o_1323 w.params t)), (231, (o_1324 w.params t))] .next 236 594 lawCode p [] (tree 0 1) (mkT [(ls its 0), (loc1 w.params (tk u0_0) (.ref 1094)), ⟨(.type "cell"), none, (.cell none), #[]⟩, (o_1085 w.params)] 0 .nil) 0 0 0 (dec [0x1111111110100ec100b0001000112220003310ccb11222bb1111111a00ca222311, 0x11c000fc11011101010111110c001001011c111111110110c111111111111111111111, 0x11c000fc11011101010111110c11c000fc11011101010111110c11c000fc11011101010111110c, 0x11c000fc11011101010111110c11c000fc11011101010111110c11c000fc11011101010111110c, 0x11c000fc11011101010111110c11c000fc11011101010111110c11c000fc11011101010111110c, 0x11c000fc11011101010111110c11c000fc11011101010111110c11c000fc11011101010111110c, 0x11c000fc11011101010111110c11c000fc11011101010111110c11c000fc11011101010111110c, 0x111111111111111111111110100ec100b00010cc0000dc1000fc11011101010111110c, 0x11101010111117c18c0016c11011101010111117c001001018c111111110117c1111111, 0x11101010111117c18c0016c11011101010111117c18c0016c11011101010111117c18c0016c11, 0x11101010111117c18c0016c11011101010111117c18c0016c11011101010111117c18c0016c11, 0x11101010111117c18c0016c11011101010111117c18c0016c11011101010111117c18c0016c11, 0x11101010111117c18c0016c11011101010111117c18c0016c11011101010111117c18c0016c11, 0x11101010111117c18c0016c11011101010111117c18c0016c11011101010111117c18c0016c11, 0x1111011ec1111111111111111111111111111110100ec100b00010cc0000dc10016c11, 0x1011111ec1fc001dc1101110101011111ec1fc001dc1101110101011111ec00100101fc1111, 0x1011111ec1fc001dc1101110101011111ec1fc001dc1101110101011111ec1fc001dc1101111ec1, 0x1011111ec1fc001dc1101110101011111ec1fc001dc1101110101011111ec1fc001dc1101111ec1, 0x1011111ec1fc001dc1101110101011111ec1fc001dc1101110101011111ec1fc001dc1101111ec1, 0x1011111ec1fc001dc1101110101011111ec1fc001dc1101110101011111ec1fc001dc1101111ec1, 0x10cc0000dc1001dc1101110101011111ec1fc001dc1101110101011111ec1fc001dc1101111ec1, 0x125c001001026c111111110125c1111111111111111111111111111110100ec100b0cc, 0x125c26c0024c11011101010111125c26c0024c11011101010111125c26c0024c110111010125c111, 0x125c26c0024c11011101010111125c26c0024c11011101010111125c26c0024c110111010125c111, 0x125c26c0024c11011101010111125c26c0024c11011101010111125c26c0024c110111010125c111, 0x125c26c0024c11011101010111125c26c0024c11011101010111125c26c0024c110111010125c111, 0x125c26c0024c11011101010111125c26c0024c11011101010111125c26c0024c110111010125c111, 0x111110100ec100b00010cc0000dc10024c11011101010111125c26c0024c110111010125c111, 0x1101110101011112cc00100102dc11111111012cc1111111111111111111111111, 0x1101110101011112cc2dc002bc1101110101011112cc2dc002bc1101110101011112cc2dc002bc, 0x1101110101011112cc2dc002bc1101110101011112cc2dc002bc1101110101011112cc2dc002bc, 0x1101110101011112cc2dc002bc1101110101011112cc2dc002bc1101110101011112cc2dc002bc, 0x1101110101011112cc2dc002bc1101110101011112cc2dc002bc1101110101011112cc2dc002bc, 0x1101110101011112cc2dc002bc1101110101011112cc2dc002bc1101110101011112cc2dc002bc, 0x10034c0dc0001034c011222000dc000ec33c00b00010cc0000dc1002bc1101110101011112cc2dc002bc, 0x155551aa1aa1aa1aa1aa136c034c0dc00010034c0dc00010034c0dc00010034c0dc00010034c0dc0034c, 0x11101010111117ca48c046c45c00010046c45c00010046c45c0001046c0112220045c1115555111, 0x58c57c0001058c0112220057c1115555111155551001dc110111110101011111eca0016c11, 0x1110101011112cca0024c11011101010111125ca5ac058c57c00010058c57c00010058c57c0001058c, 0x5bc00010001122205cc0cc3315cc01122205bca11aa1002bc1101110101011112cca002bc112cc, 0x1160c001001061c111111110160c11111111111111111111111111111101005ec105cc, 0x1160c61c005fc11011101010111160c61c005fc11011101010111160c61c005fc110111010160c11, 0x1160c61c005fc11011101010111160c61c005fc11011101010111160c61c005fc110111010160c11, 0x1160c61c005fc11011101010111160c61c005fc11011101010111160c61c005fc110111010160c11, 0x1160c61c005fc11011101010111160c61c005fc11011101010111160c61c005fc110111010160c11, 0x1160c61c005fc11011101010111160c61c005fc11011101010111160c61c005fc110111010160c11, 0x1111101005ec105cc5bc00015cc0005dc1005fc11011101010111160c61c005fc110111010160c11, 0x11011101010111168c001001069c111111110168c1111111111111111111111111, 0x11011101010111168c69c0067c11011101010111168c69c0067c11011101010111168c69c0067c, 0x11011101010111168c69c0067c11011101010111168c69c0067c11011101010111168c69c0067c, 0x11011101010111168c69c0067c11011101010111168c69c0067c11011101010111168c69c0067c, 0x11011101010111168c69c0067c11011101010111168c69c0067c11011101010111168c69c0067c, 0x11011101010111168c69c0067c11011101010111168c69c0067c11011101010111168c69c0067c, 0x11111111111111111101005ec105cc5bc00015cc0005dc10067c11011101010111168c69c0067c, 0x1010111170c71c006fc11011101010111170c001001071c111111110170c111111111111, 0x1010111170c71c006fc11011101010111170c71c006fc11011101010111170c71c006fc11011170c, 0x1010111170c71c006fc11011101010111170c71c006fc11011101010111170c71c006fc11011170c, 0x1010111170c71c006fc11011101010111170c71c006fc11011101010111170c71c006fc11011170c, 0x1010111170c71c006fc11011101010111170c71c006fc11011101010111170c71c006fc11011170c, 0x1010111170c71c006fc11011101010111170c71c006fc11011101010111170c71c006fc11011170c, 0x107cc01122205dc0000007bc00000105dc001079c11005ec78c05cc5bc00015cc0005dc1006fc11011170c, 0x79c1111222076c07cc5dc00017cc00079c111122206ec07cc5dc00017cc00079c1111222066c07cc5dc007cc, 0x11111111111110081c107fc5bc00010001122207fc0cc3317fc01122205bca117ec07cc5dc00017cc79c, 0x1101010111183c84c0082c11011101010111183c01084c111111110183c1111111111111, 0x11111111111111110081c107fc5bc00017fc00080c10082c11011101010111183c84c0082c1183c1, 0x1011101010111189c8ac0088c11011101010111189c0108ac111111110189c1111111111, 0x11111111111111111110081c107fc5bc00017fc00080c10088c11011101010111189c8ac0088c1, 0x8ec1101110101011118fc90c008ec1101110101011118fc01090c11111111018fc1111111, 0x98c000001080c001096c110081c95c07fc5bc00017fc00080c1008ec1101110101011118fc90c8ec, 0x93c099c80c000199c00096c111122208dc099c80c000199c00096c1111222087c099c80c0001099c011222080c, 0x1110ca9fc09dc9cc0001009dc9cc0001009dc9cc000109dc011222009cc9bc099c80c000199c00096c111122293c, 0x1a1c01122205bca11000a0c1111222000fc11011101010111110ca000fc110111010110c11, 0xa2c100a3c10a1c5bc0001a1c000a2c100a3c10a1c5bc0001a1c000a2c100a3c10a1c5bc0001000112220a1c0cc33, 0x12220a4c0acca2c00010acc0112220a2c000000abc0000010a2c0010a9c1100a3ca8c0a1c5bc0001a1c00a2c, 0xafcaec0acca2c0001acc000a9c11112220a6c0acca2c0001acc000a9c11112220a5c0acca2c0001acc000a9c111, 0x111110ca000fc11011101010111110cab2c0b0cafc000100b0cafc000100b0cafc00010b0c011222afc, 0xb4c0010010b5c11111111101b4c11111111111111111111111111000fc1101110110c1, 0x1100b3c110111010101111b4cb5c00b3c110111010101111b4cb5c00b3c1101110101b4c1111, 0xb3c110111010101111b4cb5c00b3c110111010101111b4cb5c1100b3c110111010101111b4cb5c, 0x101111b7c0010010b8c1111111101b7c11111111111111111111111111111110b3c, 0x1bbc000bcc0bbcbac0001bbcbccbbc0112220bac11011111011110b9c11111b8c100b6c110111b7c1, 0x1c0cc1c112220c0cbfc0001c0c000c1c0c0cbfc0001c0cc1cc0c0112220bfc100bccbec0bbcbac0001bbcbcc112220bbcbac, 0x10101111b7cb8c00b6c110111010101111b7cb8c00b6c110111010101111b7cb8c00c1cc3c0c0cbfc00c0c, 0x111111111100b6c110111010101111b7cb8c00b6c110111010101111b7cb8c00b6c110111b7c, 0x1010101111c5c0010010010010010c6c1111111101c5c111111111111111111111, 0x11111111111111111111111111110c6c100c4c110111010101111c5c0c6c00c4c11c5c11, 0x111010101111c8c01c9c00c7c110111010101111c8c0010010010c9c1111111101c8c11, 0x111010101111c8cc9c00c7c110111010101111c8cc9c00c7c110111010101111c8c0c9c00c7c11, 0x111010101111c8cc9c00c7c110111010101111c8cc9c00c7c110111010101111c8cc9c00c7c11c8c, 0x11010101111c5cc6c100100cbcc4c10011101111c5cc6c00c4c110111010101111c5cc6c00c7c11c8c, 0x110111010101111c5cc6c100c4c110111010101111c5cc6cc4c10011101111c5c0c6c00c4c11c5c1, 0x100ceccdc000100ceccdc000100ceccdc00010cec01122200cdc00c4c110111010101111c5cc6c00c4c, 0x111110ca000fc11011101010111110ca000fc11011101010111110cad0c0ceccdc000100ceccdc0cec, 0x1111222000d1c1111222aaaa000fc11011101010111110ca000fc110111010110c, 0xad5c0d3cd2c000100d3cd2c000100d3cd2c000100d3cd2c000100d3cd2c000100d3cd2c00010d3c01122200d2c, 0xa000fc11011101010111110ca000fc11011101010111110ca000fc11011101010111110c, 0x100d9cd8c00010d9c01122200d8c000fc11011101010111110ca000fc11011101010111110c, 0x1010111110ca000fc11011101010111110cadbc0d9cd8c000100d9cd8c000100d9cd8c000100d9cd8c0d9c, 0x5111155551000fc11011101010111110ca000fc11011101010111110ca000fc11011110c, 0xfc11011101010111110caedc0ebceac000100ebceac000100ebceac00010ebc01122200eac111555, 0x144f1c0efceec000100efceec000100efceec00010efc01122200eeca000fc11011101010111110ca0fc, 0x33]) .nil
theorem c_p0 (w : World) (t u0_0 : Nat) (its : Array Value) (n0 n1 : Obj) (p : Pos) : (r_p0 w t u0_0 its n0 n1 p).ob.left = (r_p0 w t u0_0 its n0 n1 p).ob.right := by kernel_rfl
noncomputable def big0 (w : World) (t u0_0 : Nat) (its : Array Value) (n1 : Obj) : List (Addr × Obj) := [(1094, (ls its 0)), (1095, (loc2 w.params (tk u0_0) (.ref 1094) (tk (t + 593)) (.ref 1107))), (1096, (o_1096 w.params t)), (1085, ⟨.none, none, (.fields #[(iv 759 0), (iv 0 0), (.ref 1151), (iv 760 0), (iv 0 0), (.ref 1158), (iv 762 0), (iv 0 0), (.ref 1169), (iv 763 0), (iv 0 0), (.ref 1176), (iv 771 0), (iv 0 0), (.ref 1316), (iv 772 0), (iv 0 0), (.ref 1323)]), #[]⟩), (1099, n1), (1100, (ls #[(.ref 1099), (iv 0 (tk (t + 1)))] 0)), (1106, (sh1106 w.params t (.ref 1306))), (1107, (o_1107 w.params t)), (1113, (o_1113 w.params t)), (1114, (o_1114 w.params t)), (1120, (o_1120 w.params t)), (1121, (o_1121 w.params t)), (1127, (o_1127 w.params t)), (1128, (o_1128 w.params t)), (1134, (o_1134 w.params t)), (1135, (o_1135 w.params t)), (1151, (o_1151 w.params t)), (1152, (o_1152 w.params t)), (1158, (o_1158 w.params t)), (1159, (o_1159 w.params t)), (1169, (o_1169 w.params t)), (1170, (o_1170 w.params t)), (1176, (o_1176 w.params t)), (1177, (o_1177 w.params t)), (1186, (sh1186 w.params t (.bool false))), (1187, (o_1187 w.params t)), (1189, (o_1189 w.params t)), (1194, (o_1194 w.params t)), (1195, (o_1195 w.params t)), (1197, (o_1197 w.params t)), (1202, (sh1202 w.params t (iv 0 (tk (t + 355))) .none (.ref 1207) .none .none .none (iv 0 (tk (t + 379))) (.bool false) (.bool false))), (1203, (o_1203 w.params t)), (1205, (dcO #[] 0)), (1207, (o_1207 w.params t)), (1212, (o_1212 w.params t)), (1221, (sh1221 w.params t (.bytes #[] (tk (t + 401))) (.ref 1224))), (1222, (o_1222 w.params t)), (1224, (o_1224 w.params t)), (1227, (o_1227 w.params t)), (1228, (o_1228 w.params t)), (1230, (o_1230 w.params t)), (1233, (o_1233 w.params t)), (1234, (o_1234 w.params t)), (1236, (o_1236 w.params t)), (1241, (o_1241 w.params t)), (1251, (o_1251 w.params t)), (1260, (sh1260 w.params t (iv 0 (tk (t + 442))) (iv 0 (tk (t + 444))))), (1270, (o_1270 w.params t)), (1271, (o_1271 w.params t)), (1273, (sh1273 w.params t (iv 0 (tk (t + 489))))), (1274, (o_1274 w.params t)), (1287, (sh1287 w.params t (.ref 1295))), (1288, (o_1288 w.params t)), (1290, (o_1290 w.params t)), (1291, (o_1291 w.params t)), (1294, (ls #[(.ref 1291)] 0)), (1300, (o_1300 w.params t)), (1305, (ls #[] 0)), (1306, (o_1306 w.params t)), (1316, (o_1316 w.params t)), (1317, (o_1317 w.params t)), (1323, (o_1323 w.params t)), (1324, (o_1324 w.params t))]
theorem p0 {w : World} {s : Shared} {p : Pos} {t u0_0 : Nat} {its : Array Value} {n0 n1 : Obj} {q0 q1 : List (Addr × Obj)} (hN : s.heap.objs.size = 1097) (ht : s.toks = t + 1837) (hg : s.gens = #[]) (hk : AKT s.heap (kt w.params)) (h0 : Hs s 1094 (ls its 0)) (h1 : Hs s 1095 (loc1 w.params (tk u0_0) (.ref 1094))) (h2 : Hs s 1096 ⟨(.type "cell"), none, (.cell none), #[]⟩) (h3 : Hs s 1085 (o_1085 w.params)) (c0 : CallAt 1098 [lawCode] w (kt w.params) (.call (.builtin "list.__getitem__") ⟨[(.ref 1094), (.ref 1097)], []⟩) (tk (t + 1)) (tk (t + 1)) [(1094, (ls its 0)), (1097, ⟨(.type "slice"), none, (.fields #[.none, (iv 16 (tk (t + 0))), .none]), #[]⟩)] q0 (.ref 1098) [] [n0]) (g0 : ∀ x ∈ q0, s.heap.get? x.1 = some x.2 ∧ x.1 ∉ [1094, 1095, 1096, 1085]) (c1 : CallAt 1099 [lawCode] w (kt w.params) (.call (.type "list") ⟨[(.ref 1098)], []⟩) (tk (t + 1)) (tk (t + 1)) [(1098, n0)] q1 (.ref 1099) [] [n1]) (g1 : ∀ x ∈ q1, s.heap.get? x.1 = some x.2 ∧ x.1 ∉ [1094, 1095, 1096, 1085]) :
  wp (model PP w) Γf (execs (lawSl 0 1) lawEnv) (fun g _ s' => g = .next ∧ After s s' [1094, 1095, 1096, 1085] 1097 236 (tk (t + 594)) ∧ (∀ x ∈ big0 w t u0_0 its n1, s'.heap.get? x.1 = some x.2)) (fun _ _ _ => False) p s := by
  have hkb : ∀ a ∈ [1094, 1095, 1096, 1085], (kt w.params).get a = none ∨ 1333 ≤ a := fa_cons (.inl (by kernel_rfl)) <| fa_cons (.inl (by kernel_rfl)) <| fa_cons (.inl (by kernel_rfl)) <| fa_cons (.inl (by kernel_rfl)) <| fa_nil
  exact Sem.wp_mono _ _ _ (fun g _ s' h => ⟨h.1, h.2.1, posts_of h.2.2 (by kernel_rfl)⟩) (fun _ _ _ h => h) _ _ (tri (c_p0 w t u0_0 its n0 n1 p) (by kernel_rfl) hkb (by decide) hN ht hg hk (mc h0 <| mc h1 <| mc h2 <| mc h3 <| mn) trivial (fa_cons (fun RX => spAt_of rfl rfl (sp_base hkb hk) rfl rfl c0 rfl rfl rfl rfl rfl (sp_keep g0)) <| fa_cons (fun RX => spAt_of rfl rfl (sp_base hkb hk) rfl rfl c1 rfl rfl rfl rfl rfl (sp_keep g1)) <| fa_nil))

end
end Mine
end
section
set_option maxRecDepth 100000
set_option linter.unusedVariables false
open PySem PySem.W PySem.Calls PyProof.Rows
open PySem.Sem (wp)
namespace Mine
noncomputable section
def r_p1h (w : World) (t t1 u0_0 u0_2 u1_3 ur0 ub0 : Nat) (v0_0 v2_32 v3_6 : Value) (n0_0 : Obj) (uu : Nat) (p : Pos) : St :=
  runE (VL w (kt2 w.params uu) [1095, 1100, 1106, 1287, 1294] 1333 t [(6, t1)] [⟨some [lawCode], (.call (.ref 1083) ⟨[(.ref 1100), (iv 2 (tk (t + 5)))], []⟩), 6, 1, 1, [(1, (box 0 u1_3))], (iv 0 (tk ur0)), [(1, (box 1 ub0))], [n0_0]⟩] belL) 1000 [(0, (loc4 w.params (tk u0_0) v0_0 (tk u0_2) (.ref 1107) (tk (t1 + 0)) (iv 100 (tk (t + 3))) (tk (t1 + 1)) (.ref 1203))),
    (1, (box 1 ub0)),
    (2, (sh1106 w.params uu v2_32)),
    (3, (sh1287 w.params uu v3_6)),
    (4, (ls #[(.ref 1291), (.ref (1333 + 17))] 1)),
    (21, (sh1349 w.params (t1 + 2) (iv 100 (tk (t1 + 50))) (iv 0 (tk (t1 + 35))))),
    (22, ⟨(.ref 700), (some (1333 + 16)), .plain, #[]⟩)] .next 21 60 lawCode p [] (tree 1 2) (mkT [(loc2 w.params (tk u0_0) v0_0 (tk u0_2) (.ref 1107)),
    (box 0 u1_3),
    (sh1106 w.params uu v2_32),
    (sh1287 w.params uu v3_6),
    (ls #[(.ref 1291)] 0)] 0 .nil) 0 0 0 (dec [0x1aaa9aaa1aaa9aaa1aa911222999177177700ca11111211141111111111112, 0x110100100100dc111112511111111111111411111111111122212210ccaa9aaa, 0xec10060001010fc6112226651111111111110100100ec111110dc5111111111111, 0x1111111111101122251111111111110dc11c00600010fc11222011111111111110ec, 0x101001013c11111051111111111111101001012c1111105111111111111110dc51, 0x6000114c11222011111111111110013c100600010114c61122266511111111111, 0x1001001019c111111110118c111111111111111111111111111111010012c116c14c, 0x17c11011101010111118c019c0017c11011101010111118c0119c0017c11011101010111118c, 0x17c11011101010111118c19c0017c11011101010111118c19c0017c11011101010111118c19c017c, 0x651111111111110012c10017c11011101010111118c19c0017c11011101010111118c19c017c, 0x1118c11bc17c1001110111118c0100101bc111110dc17c011110111011118c000dc106666112c666, 0x10dc0017c110111010118c11]) .nil
def r_p1t (w : World) (t t1 u0_0 u0_2 u1_3 ur0 ub0 : Nat) (v0_0 v2_32 v3_6 : Value) (n0_0 : Obj) (uu : Nat) (p : Pos) : St :=
  runE (VL w (kt2 w.params uu) [1095, 1100, 1106, 1287, 1294] 1333 t [(6, t1)] [⟨some [lawCode], (.call (.ref 1083) ⟨[(.ref 1100), (iv 2 (tk (t + 5)))], []⟩), 6, 1, 1, [(1, (box 0 u1_3))], (iv 1 (tk ur0)), [(1, (box 1 ub0))], [n0_0]⟩] belL) 1000 [(0, (loc4 w.params (tk u0_0) v0_0 (tk u0_2) (.ref 1107) (tk (t1 + 0)) (iv 10 (tk (t + 4))) (tk (t1 + 1)) (.ref 1203))),
    (1, (box 1 ub0)),
    (2, (sh1106 w.params uu v2_32)),
    (3, (sh1287 w.params uu v3_6)),
    (4, (ls #[(.ref 1291), (.ref (1333 + 17))] 1)),
    (21, (sh1349 w.params (t1 + 2) (iv 10 (tk (t1 + 50))) (iv 0 (tk (t1 + 35))))),
    (22, ⟨(.ref 700), (some (1333 + 16)), .plain, #[]⟩)] .next 21 60 lawCode p [] (tree 1 2) (mkT [(loc2 w.params (tk u0_0) v0_0 (tk u0_2) (.ref 1107)),
    (box 0 u1_3),
    (sh1106 w.params uu v2_32),
    (sh1287 w.params uu v3_6),
    (ls #[(.ref 1291)] 0)] 0 .nil) 0 0 0 (dec [0x1aaa9aaa1aaa9aaa1aa911222999177177700ca11111211141111111111112, 0x110100100100dc111112511111111111111411111111111122212210ccaa9aaa, 0xec10060001010fc6112226651111111111110100100ec111110dc5111111111111, 0x1111111111101122251111111111110dc11c00600010fc11222011111111111110ec, 0x101001013c11111051111111111111101001012c1111105111111111111110dc51, 0x6000114c11222011111111111110013c100600010114c61122266511111111111, 0x1001001019c111111110118c111111111111111111111111111111010012c116c14c, 0x17c11011101010111118c019c0017c11011101010111118c0119c0017c11011101010111118c, 0x17c11011101010111118c19c0017c11011101010111118c19c0017c11011101010111118c19c017c, 0x651111111111110012c10017c11011101010111118c19c0017c11011101010111118c19c017c, 0x1118c11bc17c1001110111118c0100101bc111110dc17c011110111011118c000dc106666112c666, 0x10dc0017c110111010118c11]) .nil
theorem cs_R1 :
  (∀ (w : World) (t t1 u0_0 u0_2 u1_3 ur0 ub0 : Nat) (v0_0 v2_32 v3_6 : Value) (n0_0 : Obj) (uu : Nat) (p : Pos), okR (r_p1h w t t1 u0_0 u0_2 u1_3 ur0 ub0 v0_0 v2_32 v3_6 n0_0 uu p)) ∧
  (∀ (w : World) (t t1 u0_0 u0_2 u1_3 ur0 ub0 : Nat) (v0_0 v2_32 v3_6 : Value) (n0_0 : Obj) (uu : Nat) (p : Pos), okR (r_p1t w t t1 u0_0 u0_2 u1_3 ur0 ub0 v0_0 v2_32 v3_6 n0_0 uu p)) :=
  ⟨fun _ _ _ _ _ _ _ _ _ _ _ _ _ _ => by kernel_rfl,
  fun _ _ _ _ _ _ _ _ _ _ _ _ _ _ => by kernel_rfl⟩
theorem p1h {w : World} {s : Shared} {p : Pos} {t t1 u0_0 u0_2 u1_3 ur0 ub0 : Nat} {v0_0 v2_32 v3_6 : Value} {n0_0 : Obj} {uu : Nat} (hN : s.heap.objs.size = 1333) (ht : s.toks = t + 1837) (hg : s.gens = #[]) (hk : AKT s.heap (kt2 w.params uu)) (h0 : Hs s 1095 (loc2 w.params (tk u0_0) v0_0 (tk u0_2) (.ref 1107))) (h1 : Hs s 1100 (box 0 u1_3)) (h2 : Hs s 1106 (sh1106 w.params uu v2_32)) (h3 : Hs s 1287 (sh1287 w.params uu v3_6)) (h4 : Hs s 1294 (ls #[(.ref 1291)] 0)) (hs : segOK t [(6, t1)]) {q0 : List (Addr × Obj)} {w0 : Nat → List Obj} (c0 : CallOK [lawCode] w (kt2 w.params uu) (.call (.ref 1083) ⟨[(.ref 1100), (iv 2 (tk (t + 5)))], []⟩) (tk (t + 6)) (tk t1) [(1100, (box 0 u1_3))] q0 (iv 0 (tk ur0)) [(1100, (box 1 ub0))] w0) (e0 : w0 (1333 + 1) = [n0_0]) (g0 : ∀ x ∈ q0, s.heap.get? x.1 = some x.2 ∧ x.1 ∉ [1095, 1100, 1106, 1287, 1294]) :
  wp (model PP w) Γf (execs (lawSl 1 2) lawEnv) (fun g _ s' => g = .next ∧ After s s' [1095, 1100, 1106, 1287, 1294] 1333 21 (tk (t1 + 53)) ∧ Hs s' 1095 (loc4 w.params (tk u0_0) v0_0 (tk u0_2) (.ref 1107) (tk (t1 + 0)) (iv 100 (tk (t + 3))) (tk (t1 + 1)) (.ref 1203)) ∧ Hs s' 1100 (box 1 ub0) ∧ Hs s' 1106 (sh1106 w.params uu v2_32) ∧ Hs s' 1287 (sh1287 w.params uu v3_6) ∧ Hs s' 1294 (ls #[(.ref 1291), (.ref (1333 + 17))] 1) ∧ Hs s' (1333 + 16) (sh1349 w.params (t1 + 2) (iv 100 (tk (t1 + 50))) (iv 0 (tk (t1 + 35)))) ∧ Hs s' (1333 + 17) ⟨(.ref 700), (some (1333 + 16)), .plain, #[]⟩) (fun _ _ _ => False) p s := by
  have hkb := kb_of w.params uu (l := [1095, 1100, 1106, 1287, 1294]) (by decide)
  exact Sem.wp_mono _ _ _ (fun g _ s' h => ⟨h.1, h.2.1, h.2.2 _ m0, h.2.2 _ m1, h.2.2 _ m2, h.2.2 _ m3, h.2.2 _ m4, h.2.2 _ m5, h.2.2 _ m6⟩) (fun _ _ _ h => h) _ _ (tri (cs_R1.1 w t t1 u0_0 u0_2 u1_3 ur0 ub0 v0_0 v2_32 v3_6 n0_0 uu p) (by kernel_rfl) hkb (by decide) hN ht hg hk (mc h0 <| mc h1 <| mc h2 <| mc h3 <| mc h4 <| mn) hs (fa_cons (fun RX => spOK_of rfl rfl (sp_base hkb hk) rfl rfl c0 e0 rfl rfl rfl rfl (sp_keep g0)) <| fa_nil))
theorem p1t {w : World} {s : Shared} {p : Pos} {t t1 u0_0 u0_2 u1_3 ur0 ub0 : Nat} {v0_0 v2_32 v3_6 : Value} {n0_0 : Obj} {uu : Nat} (hN : s.heap.objs.size = 1333) (ht : s.toks = t + 1837) (hg : s.gens = #[]) (hk : AKT s.heap (kt2 w.params uu)) (h0 : Hs s 1095 (loc2 w.params (tk u0_0) v0_0 (tk u0_2) (.ref 1107))) (h1 : Hs s 1100 (box 0 u1_3)) (h2 : Hs s 1106 (sh1106 w.params uu v2_32)) (h3 : Hs s 1287 (sh1287 w.params uu v3_6)) (h4 : Hs s 1294 (ls #[(.ref 1291)] 0)) (hs : segOK t [(6, t1)]) {q0 : List (Addr × Obj)} {w0 : Nat → List Obj} (c0 : CallOK [lawCode] w (kt2 w.params uu) (.call (.ref 1083) ⟨[(.ref 1100), (iv 2 (tk (t + 5)))], []⟩) (tk (t + 6)) (tk t1) [(1100, (box 0 u1_3))] q0 (iv 1 (tk ur0)) [(1100, (box 1 ub0))] w0) (e0 : w0 (1333 + 1) = [n0_0]) (g0 : ∀ x ∈ q0, s.heap.get? x.1 = some x.2 ∧ x.1 ∉ [1095, 1100, 1106, 1287, 1294]) :
  wp (model PP w) Γf (execs (lawSl 1 2) lawEnv) (fun g _ s' => g = .next ∧ After s s' [1095, 1100, 1106, 1287, 1294] 1333 21 (tk (t1 + 53)) ∧ Hs s' 1095 (loc4 w.params (tk u0_0) v0_0 (tk u0_2) (.ref 1107) (tk (t1 + 0)) (iv 10 (tk (t + 4))) (tk (t1 + 1)) (.ref 1203)) ∧ Hs s' 1100 (box 1 ub0) ∧ Hs s' 1106 (sh1106 w.params uu v2_32) ∧ Hs s' 1287 (sh1287 w.params uu v3_6) ∧ Hs s' 1294 (ls #[(.ref 1291), (.ref (1333 + 17))] 1) ∧ Hs s' (1333 + 16) (sh1349 w.params (t1 + 2) (iv 10 (tk (t1 + 50))) (iv 0 (tk (t1 + 35)))) ∧ Hs s' (1333 + 17) ⟨(.ref 700), (some (1333 + 16)), .plain, #[]⟩) (fun _ _ _ => False) p s := by
  have hkb := kb_of w.params uu (l := [1095, 1100, 1106, 1287, 1294]) (by decide)
  exact Sem.wp_mono _ _ _ (fun g _ s' h => ⟨h.1, h.2.1, h.2.2 _ m0, h.2.2 _ m1, h.2.2 _ m2, h.2.2 _ m3, h.2.2 _ m4, h.2.2 _ m5, h.2.2 _ m6⟩) (fun _ _ _ h => h) _ _ (tri (cs_R1.2 w t t1 u0_0 u0_2 u1_3 ur0 ub0 v0_0 v2_32 v3_6 n0_0 uu p) (by kernel_rfl) hkb (by decide) hN ht hg hk (mc h0 <| mc h1 <| mc h2 <| mc h3 <| mc h4 <| mn) hs (fa_cons (fun RX => spOK_of rfl rfl (sp_base hkb hk) rfl rfl c0 e0 rfl rfl rfl rfl (sp_keep g0)) <| fa_nil))

end
end Mine
end
section
set_option maxRecDepth 100000
set_option linter.unusedVariables false
open PySem PySem.W PySem.Calls PyProof.Rows
open PySem.Sem (wp)
namespace Mine
noncomputable section
def r_p3n (w : World) (t t1 t2 u0_0 u0_2 u0_4 u0_6 u1_3 ur0 ur1 ub1 ub0 : Nat) (v0_0 v0_2 v0_3 v2_32 v3_6 : Value) (n0_0 n1_0 : Obj) (uu : Nat) (p : Pos) : St :=
  runE (VL w (kt2 w.params uu) [1095, 1100, 1106, 1287] 1354 t [(6, t1), (3, t2)] [⟨some [(compC (.ref (1354 + 1)) (.ref (1354 + 2)) (1354 + 3)), lawCode], (.call (.ref 1083) ⟨[(.ref 1100), (iv 2 (tk (t + 5)))], []⟩), 6, 4, 1, [(1, (box 1 u1_3))], (iv 1 (tk ur0)), [(1, (box 2 ub0))], [n0_0]⟩, ⟨some [(compC (.ref (1354 + 1)) (.ref (1354 + 2)) (1354 + 3)), lawCode], (.call (.ref 1083) ⟨[(.ref 1100), (iv 2 (tk (t1 + 2)))], []⟩), 10, 5, 1, [(1, (box 2 ub0))], (iv 0 (tk ur1)), [(1, (box 3 ub1))], [n1_0]⟩] belL) 218 [(0, (loc5 w.params (tk u0_0) v0_0 (tk u0_2) (.ref 1107) (tk u0_4) v0_2 (tk u0_6) v0_3 (tk (t2 + 0)) (.ref (1354 + 2)))),
    (1, (box 3 ub1)),
    (2, (sh1106 w.params uu v2_32)),
    (3, (sh1287 w.params uu (.ref (1354 + 8)))),
    (6, (ls #[] 0)),
    (12, (ls #[] 0))] .next 9 15 lawCode p [] (tree 3 2) (mkT [(loc4 w.params (tk u0_0) v0_0 (tk u0_2) (.ref 1107) (tk u0_4) v0_2 (tk u0_6) v0_3),
    (box 1 u1_3),
    (sh1106 w.params uu v2_32),
    (sh1287 w.params uu v3_6)] 0 .nil) 0 0 0 (dec [0x1711222900ca11199177777777177711222770cc331766661122266661661111, 0x11111200008800000100ec112119992210dc7777171122291a11199177777777, 0x555111111111111111141111111]) .nil
def r_p3h (w : World) (t t1 t2 u0_0 u0_2 u0_4 u0_6 u1_3 ur0 ur1 ub1 ub0 : Nat) (v0_0 v0_2 v0_3 v2_32 v3_6 : Value) (n0_0 n1_0 : Obj) (uu : Nat) (p : Pos) : St :=
  runE (VL w (kt2 w.params uu) [1095, 1100, 1106, 1287] 1354 t [(6, t1), (7, t2)] [⟨some [(compC (.ref (1354 + 1)) (.ref (1354 + 2)) (1354 + 3)), lawCode], (.call (.ref 1083) ⟨[(.ref 1100), (iv 2 (tk (t + 5)))], []⟩), 6, 4, 1, [(1, (box 1 u1_3))], (iv 0 (tk ur0)), [(1, (box 2 ub0))], [n0_0]⟩, ⟨some [(compC (.ref (1354 + 1)) (.ref (1354 + 2)) (1354 + 3)), lawCode], (.call (.ref 1083) ⟨[(.ref 1100), (iv 2 (tk (t1 + 6)))], []⟩), 14, 13, 1, [(1, (box 2 ub0))], (iv 0 (tk ur1)), [(1, (box 3 ub1))], [n1_0]⟩] belL) 432 [(0, (loc5 w.params (tk u0_0) v0_0 (tk u0_2) (.ref 1107) (tk u0_4) v0_2 (tk u0_6) v0_3 (tk (t2 + 0)) (.ref (1354 + 2)))),
    (1, (box 3 ub1)),
    (2, (sh1106 w.params uu v2_32)),
    (3, (sh1287 w.params uu (.ref (1354 + 16)))),
    (6, (ls #[(.ref (1354 + 12))] 1)),
    (16, (tpO #[(sv "home" (tk (t1 + 0))), (.bytes #[0, 0, 0, 0, 0, 0, 0, 0] (tk (t1 + 3)))] 0)),
    (20, (ls #[(.ref (1354 + 12))] 1))] .next 17 19 lawCode p [] (tree 3 2) (mkT [(loc4 w.params (tk u0_0) v0_0 (tk u0_2) (.ref 1107) (tk u0_4) v0_2 (tk u0_6) v0_3),
    (box 1 u1_3),
    (sh1106 w.params uu v2_32),
    (sh1287 w.params uu v3_6)] 0 .nil) 0 0 0 (dec [0xb911222900ca11199177777777177711222770cc331766661122266661661111, 0x10ec000fc00ec0dc00010ec000fc00ec0dc00010ec00dc0ec0112220000000dc110010010cc9111bb1bb, 0xfc00ec0dc00010ec000fc00ec0dc00010ec000fc00ec0dc00010ec000fc00ec0dc00010ec000fc00ec0dc00010ec000fc00ec0dc0ec, 0x1121199922115c7777171122291a11199177777777178888110fc11c00ec0dc00010ec00fc, 0x555111111111111111141111111111112000088000001016c]) .nil
def r_p3a (w : World) (t t1 t2 u0_0 u0_2 u0_4 u0_6 u1_3 ur0 ur1 ub1 ub0 : Nat) (v0_0 v0_2 v0_3 v2_32 v3_6 : Value) (n0_0 n1_0 : Obj) (uu : Nat) (p : Pos) : St :=
  runE (VL w (kt2 w.params uu) [1095, 1100, 1106, 1287] 1354 t [(6, t1), (3, t2)] [⟨some [(compC (.ref (1354 + 1)) (.ref (1354 + 2)) (1354 + 3)), lawCode], (.call (.ref 1083) ⟨[(.ref 1100), (iv 2 (tk (t + 5)))], []⟩), 6, 4, 1, [(1, (box 1 u1_3))], (iv 1 (tk ur0)), [(1, (box 2 ub0))], [n0_0]⟩, ⟨some [(compC (.ref (1354 + 1)) (.ref (1354 + 2)) (1354 + 3)), lawCode], (.call (.ref 1083) ⟨[(.ref 1100), (iv 2 (tk (t1 + 2)))], []⟩), 10, 5, 1, [(1, (box 2 ub0))], (iv 1 (tk ur1)), [(1, (box 3 ub1))], [n1_0]⟩] belL) 432 [(0, (loc5 w.params (tk u0_0) v0_0 (tk u0_2) (.ref 1107) (tk u0_4) v0_2 (tk u0_6) v0_3 (tk (t2 + 4)) (.ref (1354 + 2)))),
    (1, (box 3 ub1)),
    (2, (sh1106 w.params uu v2_32)),
    (3, (sh1287 w.params uu (.ref (1354 + 16)))),
    (6, (ls #[(.ref (1354 + 13))] 1)),
    (17, (tpO #[(sv "away" (tk (t2 + 1))), (.bytes #[1, 1, 1, 1, 1, 1, 1, 1] (tk (t2 + 3)))] 0)),
    (20, (ls #[(.ref (1354 + 13))] 1))] .next 17 19 lawCode p [] (tree 3 2) (mkT [(loc4 w.params (tk u0_0) v0_0 (tk u0_2) (.ref 1107) (tk u0_4) v0_2 (tk u0_6) v0_3),
    (box 1 u1_3),
    (sh1106 w.params uu v2_32),
    (sh1287 w.params uu v3_6)] 0 .nil) 0 0 0 (dec [0x1711222900ca11199177777777177711222770cc331766661122266661661111, 0x10fc00ec0fc0112220000000ec110010010dc9111001000cc91122291a11199177777777, 0xfc0ec00010fc0010c00fc0ec00010fc0010c00fc0ec00010fc0010c00fc0ec00010fc0010c00fc0ec00010fc0010c00fc0ec000fc, 0x1121199922115c77771788881110c12c00fc0ec00010fc0010c00fc0ec00010fc0010c00fc0ec00010fc0010c0fc, 0x555111111111111111141111111111112000088000001016c]) .nil
def r_p3b (w : World) (t t1 t2 u0_0 u0_2 u0_4 u0_6 u1_3 ur0 ur1 ub1 ub0 : Nat) (v0_0 v0_2 v0_3 v2_32 v3_6 : Value) (n0_0 n1_0 : Obj) (uu : Nat) (p : Pos) : St :=
  runE (VL w (kt2 w.params uu) [1095, 1100, 1106, 1287] 1354 t [(6, t1), (7, t2)] [⟨some [(compC (.ref (1354 + 1)) (.ref (1354 + 2)) (1354 + 3)), lawCode], (.call (.ref 1083) ⟨[(.ref 1100), (iv 2 (tk (t + 5)))], []⟩), 6, 4, 1, [(1, (box 1 u1_3))], (iv 0 (tk ur0)), [(1, (box 2 ub0))], [n0_0]⟩, ⟨some [(compC (.ref (1354 + 1)) (.ref (1354 + 2)) (1354 + 3)), lawCode], (.call (.ref 1083) ⟨[(.ref 1100), (iv 2 (tk (t1 + 6)))], []⟩), 14, 13, 1, [(1, (box 2 ub0))], (iv 1 (tk ur1)), [(1, (box 3 ub1))], [n1_0]⟩] belL) 646 [(0, (loc5 w.params (tk u0_0) v0_0 (tk u0_2) (.ref 1107) (tk u0_4) v0_2 (tk u0_6) v0_3 (tk (t2 + 4)) (.ref (1354 + 2)))),
    (1, (box 3 ub1)),
    (2, (sh1106 w.params uu v2_32)),
    (3, (sh1287 w.params uu (.ref (1354 + 24)))),
    (6, (ls #[(.ref (1354 + 12)), (.ref (1354 + 21))] 2)),
    (16, (tpO #[(sv "home" (tk (t1 + 0))), (.bytes #[0, 0, 0, 0, 0, 0, 0, 0] (tk (t1 + 3)))] 0)),
    (25, (tpO #[(sv "away" (tk (t2 + 1))), (.bytes #[1, 1, 1, 1, 1, 1, 1, 1] (tk (t2 + 3)))] 0)),
    (28, (ls #[(.ref (1354 + 12)), (.ref (1354 + 21))] 1))] .next 25 23 lawCode p [] (tree 3 2) (mkT [(loc4 w.params (tk u0_0) v0_0 (tk u0_2) (.ref 1107) (tk u0_4) v0_2 (tk u0_6) v0_3),
    (box 1 u1_3),
    (sh1106 w.params uu v2_32),
    (sh1287 w.params uu v3_6)] 0 .nil) 0 0 0 (dec [0xb911222900ca11199177777777177711222770cc331766661122266661661111, 0x10ec000fc00ec0dc00010ec000fc00ec0dc00010ec00dc0ec0112220000000dc110010010cc9111bb1bb, 0xfc00ec0dc00010ec000fc00ec0dc00010ec000fc00ec0dc00010ec000fc00ec0dc00010ec000fc00ec0dc00010ec000fc00ec0dc0ec, 0x100115c91110010014c91122291a11199177777777178888110fc11c00ec0dc00010ec00fc, 0x18c017c16c000117c0018c017c16c000117c0018c017c16c000117c0018c017c16c000117c016c17c01122200000016c11, 0x881118c1ac017c16c000117c0018c017c16c000117c0018c017c16c000117c0018c017c16c000117c0018c017c16c000117c018c, 0x1111111111114111111111111200008800000101ec112119992211dc77771788, 0x5551111]) .nil
theorem cs_R3 :
  (∀ (w : World) (t t1 t2 u0_0 u0_2 u0_4 u0_6 u1_3 ur0 ur1 ub1 ub0 : Nat) (v0_0 v0_2 v0_3 v2_32 v3_6 : Value) (n0_0 n1_0 : Obj) (uu : Nat) (p : Pos), okR (r_p3n w t t1 t2 u0_0 u0_2 u0_4 u0_6 u1_3 ur0 ur1 ub1 ub0 v0_0 v0_2 v0_3 v2_32 v3_6 n0_0 n1_0 uu p)) ∧
  (∀ (w : World) (t t1 t2 u0_0 u0_2 u0_4 u0_6 u1_3 ur0 ur1 ub1 ub0 : Nat) (v0_0 v0_2 v0_3 v2_32 v3_6 : Value) (n0_0 n1_0 : Obj) (uu : Nat) (p : Pos), okR (r_p3h w t t1 t2 u0_0 u0_2 u0_4 u0_6 u1_3 ur0 ur1 ub1 ub0 v0_0 v0_2 v0_3 v2_32 v3_6 n0_0 n1_0 uu p)) ∧
  (∀ (w : World) (t t1 t2 u0_0 u0_2 u0_4 u0_6 u1_3 ur0 ur1 ub1 ub0 : Nat) (v0_0 v0_2 v0_3 v2_32 v3_6 : Value) (n0_0 n1_0 : Obj) (uu : Nat) (p : Pos), okR (r_p3a w t t1 t2 u0_0 u0_2 u0_4 u0_6 u1_3 ur0 ur1 ub1 ub0 v0_0 v0_2 v0_3 v2_32 v3_6 n0_0 n1_0 uu p)) ∧
  (∀ (w : World) (t t1 t2 u0_0 u0_2 u0_4 u0_6 u1_3 ur0 ur1 ub1 ub0 : Nat) (v0_0 v0_2 v0_3 v2_32 v3_6 : Value) (n0_0 n1_0 : Obj) (uu : Nat) (p : Pos), okR (r_p3b w t t1 t2 u0_0 u0_2 u0_4 u0_6 u1_3 ur0 ur1 ub1 ub0 v0_0 v0_2 v0_3 v2_32 v3_6 n0_0 n1_0 uu p)) :=
  ⟨fun _ _ _ _ _ _ _ _ _ _ _ _ _ _ _ _ _ _ _ _ _ _ => by kernel_rfl,
  fun _ _ _ _ _ _ _ _ _ _ _ _ _ _ _ _ _ _ _ _ _ _ => by kernel_rfl,
  fun _ _ _ _ _ _ _ _ _ _ _ _ _ _ _ _ _ _ _ _ _ _ => by kernel_rfl,
  fun _ _ _ _ _ _ _ _ _ _ _ _ _ _ _ _ _ _ _ _ _ _ => by kernel_rfl⟩
theorem p3n {w : World} {s : Shared} {p : Pos} {t t1 t2 u0_0 u0_2 u0_4 u0_6 u1_3 ur0 ur1 ub1 ub0 : Nat} {v0_0 v0_2 v0_3 v2_32 v3_6 : Value} {n0_0 n1_0 : Obj} {uu : Nat} (hN : s.heap.objs.size = 1354) (ht : s.toks = t + 1837) (hg : s.gens = #[]) (hk : AKT s.heap (kt2 w.params uu)) (h0 : Hs s 1095 (loc4 w.params (tk u0_0) v0_0 (tk u0_2) (.ref 1107) (tk u0_4) v0_2 (tk u0_6) v0_3)) (h1 : Hs s 1100 (box 1 u1_3)) (h2 : Hs s 1106 (sh1106 w.params uu v2_32)) (h3 : Hs s 1287 (sh1287 w.params uu v3_6)) (hs : segOK t [(6, t1), (3, t2)]) {q0 : List (Addr × Obj)} {w0 : Nat → List Obj} (c0 : CallOK [(compC (.ref (1354 + 1)) (.ref (1354 + 2)) (1354 + 3)), lawCode] w (kt2 w.params uu) (.call (.ref 1083) ⟨[(.ref 1100), (iv 2 (tk (t + 5)))], []⟩) (tk (t + 6)) (tk t1) [(1100, (box 1 u1_3))] q0 (iv 1 (tk ur0)) [(1100, (box 2 ub0))] w0) (e0 : w0 (1354 + 4) = [n0_0]) (g0 : ∀ x ∈ q0, s.heap.get? x.1 = some x.2 ∧ x.1 ∉ [1095, 1100, 1106, 1287]) {q1 : List (Addr × Obj)} {w1 : Nat → List Obj} (c1 : CallOK [(compC (.ref (1354 + 1)) (.ref (1354 + 2)) (1354 + 3)), lawCode] w (kt2 w.params uu) (.call (.ref 1083) ⟨[(.ref 1100), (iv 2 (tk (t1 + 2)))], []⟩) (tk (t1 + 3)) (tk t2) [(1100, (box 2 ub0))] q1 (iv 0 (tk ur1)) [(1100, (box 3 ub1))] w1) (e1 : w1 (1354 + 5) = [n1_0]) (g1 : ∀ x ∈ q1, s.heap.get? x.1 = some x.2 ∧ x.1 ∉ [1095, 1100, 1106, 1287]) :
  wp (model PP w) Γf (execs (lawSl 3 2) lawEnv) (fun g _ s' => g = .next ∧ After s s' [1095, 1100, 1106, 1287] 1354 9 (tk (t2 + 4)) ∧ Hs s' 1095 (loc5 w.params (tk u0_0) v0_0 (tk u0_2) (.ref 1107) (tk u0_4) v0_2 (tk u0_6) v0_3 (tk (t2 + 0)) (.ref (1354 + 2))) ∧ Hs s' 1100 (box 3 ub1) ∧ Hs s' 1106 (sh1106 w.params uu v2_32) ∧ Hs s' 1287 (sh1287 w.params uu (.ref (1354 + 8))) ∧ Hs s' (1354 + 2) (ls #[] 0) ∧ Hs s' (1354 + 8) (ls #[] 0)) (fun _ _ _ => False) p s := by
  have hkb := kb_of w.params uu (l := [1095, 1100, 1106, 1287]) (by decide)
  exact Sem.wp_mono _ _ _ (fun g _ s' h => ⟨h.1, h.2.1, h.2.2 _ m0, h.2.2 _ m1, h.2.2 _ m2, h.2.2 _ m3, h.2.2 _ m4, h.2.2 _ m5⟩) (fun _ _ _ h => h) _ _ (tri (cs_R3.1 w t t1 t2 u0_0 u0_2 u0_4 u0_6 u1_3 ur0 ur1 ub1 ub0 v0_0 v0_2 v0_3 v2_32 v3_6 n0_0 n1_0 uu p) (by kernel_rfl) hkb (by decide) hN ht hg hk (mc h0 <| mc h1 <| mc h2 <| mc h3 <| mn) hs (fa_cons (fun RX => spOK_of rfl rfl (sp_base hkb hk) rfl rfl c0 e0 rfl rfl rfl rfl (sp_keep g0)) <| fa_cons (fun RX => spOK_of rfl rfl (sp_base hkb hk) rfl rfl c1 e1 rfl rfl rfl rfl (sp_keep g1)) <| fa_nil))
theorem p3h {w : World} {s : Shared} {p : Pos} {t t1 t2 u0_0 u0_2 u0_4 u0_6 u1_3 ur0 ur1 ub1 ub0 : Nat} {v0_0 v0_2 v0_3 v2_32 v3_6 : Value} {n0_0 n1_0 : Obj} {uu : Nat} (hN : s.heap.objs.size = 1354) (ht : s.toks = t + 1837) (hg : s.gens = #[]) (hk : AKT s.heap (kt2 w.params uu)) (h0 : Hs s 1095 (loc4 w.params (tk u0_0) v0_0 (tk u0_2) (.ref 1107) (tk u0_4) v0_2 (tk u0_6) v0_3)) (h1 : Hs s 1100 (box 1 u1_3)) (h2 : Hs s 1106 (sh1106 w.params uu v2_32)) (h3 : Hs s 1287 (sh1287 w.params uu v3_6)) (hs : segOK t [(6, t1), (7, t2)]) {q0 : List (Addr × Obj)} {w0 : Nat → List Obj} (c0 : CallOK [(compC (.ref (1354 + 1)) (.ref (1354 + 2)) (1354 + 3)), lawCode] w (kt2 w.params uu) (.call (.ref 1083) ⟨[(.ref 1100), (iv 2 (tk (t + 5)))], []⟩) (tk (t + 6)) (tk t1) [(1100, (box 1 u1_3))] q0 (iv 0 (tk ur0)) [(1100, (box 2 ub0))] w0) (e0 : w0 (1354 + 4) = [n0_0]) (g0 : ∀ x ∈ q0, s.heap.get? x.1 = some x.2 ∧ x.1 ∉ [1095, 1100, 1106, 1287]) {q1 : List (Addr × Obj)} {w1 : Nat → List Obj} (c1 : CallOK [(compC (.ref (1354 + 1)) (.ref (1354 + 2)) (1354 + 3)), lawCode] w (kt2 w.params uu) (.call (.ref 1083) ⟨[(.ref 1100), (iv 2 (tk (t1 + 6)))], []⟩) (tk (t1 + 7)) (tk t2) [(1100, (box 2 ub0))] q1 (iv 0 (tk ur1)) [(1100, (box 3 ub1))] w1) (e1 : w1 (1354 + 13) = [n1_0]) (g1 : ∀ x ∈ q1, s.heap.get? x.1 = some x.2 ∧ x.1 ∉ [1095, 1100, 1106, 1287]) :
  wp (model PP w) Γf (execs (lawSl 3 2) lawEnv) (fun g _ s' => g = .next ∧ After s s' [1095, 1100, 1106, 1287] 1354 17 (tk (t2 + 4)) ∧ Hs s' 1095 (loc5 w.params (tk u0_0) v0_0 (tk u0_2) (.ref 1107) (tk u0_4) v0_2 (tk u0_6) v0_3 (tk (t2 + 0)) (.ref (1354 + 2))) ∧ Hs s' 1100 (box 3 ub1) ∧ Hs s' 1106 (sh1106 w.params uu v2_32) ∧ Hs s' 1287 (sh1287 w.params uu (.ref (1354 + 16))) ∧ Hs s' (1354 + 2) (ls #[(.ref (1354 + 12))] 1) ∧ Hs s' (1354 + 12) (tpO #[(sv "home" (tk (t1 + 0))), (.bytes #[0, 0, 0, 0, 0, 0, 0, 0] (tk (t1 + 3)))] 0) ∧ Hs s' (1354 + 16) (ls #[(.ref (1354 + 12))] 1)) (fun _ _ _ => False) p s := by
  have hkb := kb_of w.params uu (l := [1095, 1100, 1106, 1287]) (by decide)
  exact Sem.wp_mono _ _ _ (fun g _ s' h => ⟨h.1, h.2.1, h.2.2 _ m0, h.2.2 _ m1, h.2.2 _ m2, h.2.2 _ m3, h.2.2 _ m4, h.2.2 _ m5, h.2.2 _ m6⟩) (fun _ _ _ h => h) _ _ (tri (cs_R3.2.1 w t t1 t2 u0_0 u0_2 u0_4 u0_6 u1_3 ur0 ur1 ub1 ub0 v0_0 v0_2 v0_3 v2_32 v3_6 n0_0 n1_0 uu p) (by kernel_rfl) hkb (by decide) hN ht hg hk (mc h0 <| mc h1 <| mc h2 <| mc h3 <| mn) hs (fa_cons (fun RX => spOK_of rfl rfl (sp_base hkb hk) rfl rfl c0 e0 rfl rfl rfl rfl (sp_keep g0)) <| fa_cons (fun RX => spOK_of rfl rfl (sp_base hkb hk) rfl rfl c1 e1 rfl rfl rfl rfl (sp_keep g1)) <| fa_nil))
theorem p3a {w : World} {s : Shared} {p : Pos} {t t1 t2 u0_0 u0_2 u0_4 u0_6 u1_3 ur0 ur1 ub1 ub0 : Nat} {v0_0 v0_2 v0_3 v2_32 v3_6 : Value} {n0_0 n1_0 : Obj} {uu : Nat} (hN : s.heap.objs.size = 1354) (ht : s.toks = t + 1837) (hg : s.gens = #[]) (hk : AKT s.heap (kt2 w.params uu)) (h0 : Hs s 1095 (loc4 w.params (tk u0_0) v0_0 (tk u0_2) (.ref 1107) (tk u0_4) v0_2 (tk u0_6) v0_3)) (h1 : Hs s 1100 (box 1 u1_3)) (h2 : Hs s 1106 (sh1106 w.params uu v2_32)) (h3 : Hs s 1287 (sh1287 w.params uu v3_6)) (hs : segOK t [(6, t1), (3, t2)]) {q0 : List (Addr × Obj)} {w0 : Nat → List Obj} (c0 : CallOK [(compC (.ref (1354 + 1)) (.ref (1354 + 2)) (1354 + 3)), lawCode] w (kt2 w.params uu) (.call (.ref 1083) ⟨[(.ref 1100), (iv 2 (tk (t + 5)))], []⟩) (tk (t + 6)) (tk t1) [(1100, (box 1 u1_3))] q0 (iv 1 (tk ur0)) [(1100, (box 2 ub0))] w0) (e0 : w0 (1354 + 4) = [n0_0]) (g0 : ∀ x ∈ q0, s.heap.get? x.1 = some x.2 ∧ x.1 ∉ [1095, 1100, 1106, 1287]) {q1 : List (Addr × Obj)} {w1 : Nat → List Obj} (c1 : CallOK [(compC (.ref (1354 + 1)) (.ref (1354 + 2)) (1354 + 3)), lawCode] w (kt2 w.params uu) (.call (.ref 1083) ⟨[(.ref 1100), (iv 2 (tk (t1 + 2)))], []⟩) (tk (t1 + 3)) (tk t2) [(1100, (box 2 ub0))] q1 (iv 1 (tk ur1)) [(1100, (box 3 ub1))] w1) (e1 : w1 (1354 + 5) = [n1_0]) (g1 : ∀ x ∈ q1, s.heap.get? x.1 = some x.2 ∧ x.1 ∉ [1095, 1100, 1106, 1287]) :
  wp (model PP w) Γf (execs (lawSl 3 2) lawEnv) (fun g _ s' => g = .next ∧ After s s' [1095, 1100, 1106, 1287] 1354 17 (tk (t2 + 8)) ∧ Hs s' 1095 (loc5 w.params (tk u0_0) v0_0 (tk u0_2) (.ref 1107) (tk u0_4) v0_2 (tk u0_6) v0_3 (tk (t2 + 4)) (.ref (1354 + 2))) ∧ Hs s' 1100 (box 3 ub1) ∧ Hs s' 1106 (sh1106 w.params uu v2_32) ∧ Hs s' 1287 (sh1287 w.params uu (.ref (1354 + 16))) ∧ Hs s' (1354 + 2) (ls #[(.ref (1354 + 13))] 1) ∧ Hs s' (1354 + 13) (tpO #[(sv "away" (tk (t2 + 1))), (.bytes #[1, 1, 1, 1, 1, 1, 1, 1] (tk (t2 + 3)))] 0) ∧ Hs s' (1354 + 16) (ls #[(.ref (1354 + 13))] 1)) (fun _ _ _ => False) p s := by
  have hkb := kb_of w.params uu (l := [1095, 1100, 1106, 1287]) (by decide)
  exact Sem.wp_mono _ _ _ (fun g _ s' h => ⟨h.1, h.2.1, h.2.2 _ m0, h.2.2 _ m1, h.2.2 _ m2, h.2.2 _ m3, h.2.2 _ m4, h.2.2 _ m5, h.2.2 _ m6⟩) (fun _ _ _ h => h) _ _ (tri (cs_R3.2.2.1 w t t1 t2 u0_0 u0_2 u0_4 u0_6 u1_3 ur0 ur1 ub1 ub0 v0_0 v0_2 v0_3 v2_32 v3_6 n0_0 n1_0 uu p) (by kernel_rfl) hkb (by decide) hN ht hg hk (mc h0 <| mc h1 <| mc h2 <| mc h3 <| mn) hs (fa_cons (fun RX => spOK_of rfl rfl (sp_base hkb hk) rfl rfl c0 e0 rfl rfl rfl rfl (sp_keep g0)) <| fa_cons (fun RX => spOK_of rfl rfl (sp_base hkb hk) rfl rfl c1 e1 rfl rfl rfl rfl (sp_keep g1)) <| fa_nil))
theorem p3b {w : World} {s : Shared} {p : Pos} {t t1 t2 u0_0 u0_2 u0_4 u0_6 u1_3 ur0 ur1 ub1 ub0 : Nat} {v0_0 v0_2 v0_3 v2_32 v3_6 : Value} {n0_0 n1_0 : Obj} {uu : Nat} (hN : s.heap.objs.size = 1354) (ht : s.toks = t + 1837) (hg : s.gens = #[]) (hk : AKT s.heap (kt2 w.params uu)) (h0 : Hs s 1095 (loc4 w.params (tk u0_0) v0_0 (tk u0_2) (.ref 1107) (tk u0_4) v0_2 (tk u0_6) v0_3)) (h1 : Hs s 1100 (box 1 u1_3)) (h2 : Hs s 1106 (sh1106 w.params uu v2_32)) (h3 : Hs s 1287 (sh1287 w.params uu v3_6)) (hs : segOK t [(6, t1), (7, t2)]) {q0 : List (Addr × Obj)} {w0 : Nat → List Obj} (c0 : CallOK [(compC (.ref (1354 + 1)) (.ref (1354 + 2)) (1354 + 3)), lawCode] w (kt2 w.params uu) (.call (.ref 1083) ⟨[(.ref 1100), (iv 2 (tk (t + 5)))], []⟩) (tk (t + 6)) (tk t1) [(1100, (box 1 u1_3))] q0 (iv 0 (tk ur0)) [(1100, (box 2 ub0))] w0) (e0 : w0 (1354 + 4) = [n0_0]) (g0 : ∀ x ∈ q0, s.heap.get? x.1 = some x.2 ∧ x.1 ∉ [1095, 1100, 1106, 1287]) {q1 : List (Addr × Obj)} {w1 : Nat → List Obj} (c1 : CallOK [(compC (.ref (1354 + 1)) (.ref (1354 + 2)) (1354 + 3)), lawCode] w (kt2 w.params uu) (.call (.ref 1083) ⟨[(.ref 1100), (iv 2 (tk (t1 + 6)))], []⟩) (tk (t1 + 7)) (tk t2) [(1100, (box 2 ub0))] q1 (iv 1 (tk ur1)) [(1100, (box 3 ub1))] w1) (e1 : w1 (1354 + 13) = [n1_0]) (g1 : ∀ x ∈ q1, s.heap.get? x.1 = some x.2 ∧ x.1 ∉ [1095, 1100, 1106, 1287]) :
  wp (model PP w) Γf (execs (lawSl 3 2) lawEnv) (fun g _ s' => g = .next ∧ After s s' [1095, 1100, 1106, 1287] 1354 25 (tk (t2 + 8)) ∧ Hs s' 1095 (loc5 w.params (tk u0_0) v0_0 (tk u0_2) (.ref 1107) (tk u0_4) v0_2 (tk u0_6) v0_3 (tk (t2 + 4)) (.ref (1354 + 2))) ∧ Hs s' 1100 (box 3 ub1) ∧ Hs s' 1106 (sh1106 w.params uu v2_32) ∧ Hs s' 1287 (sh1287 w.params uu (.ref (1354 + 24))) ∧ Hs s' (1354 + 2) (ls #[(.ref (1354 + 12)), (.ref (1354 + 21))] 2) ∧ Hs s' (1354 + 12) (tpO #[(sv "home" (tk (t1 + 0))), (.bytes #[0, 0, 0, 0, 0, 0, 0, 0] (tk (t1 + 3)))] 0) ∧ Hs s' (1354 + 21) (tpO #[(sv "away" (tk (t2 + 1))), (.bytes #[1, 1, 1, 1, 1, 1, 1, 1] (tk (t2 + 3)))] 0) ∧ Hs s' (1354 + 24) (ls #[(.ref (1354 + 12)), (.ref (1354 + 21))] 1)) (fun _ _ _ => False) p s := by
  have hkb := kb_of w.params uu (l := [1095, 1100, 1106, 1287]) (by decide)
  exact Sem.wp_mono _ _ _ (fun g _ s' h => ⟨h.1, h.2.1, h.2.2 _ m0, h.2.2 _ m1, h.2.2 _ m2, h.2.2 _ m3, h.2.2 _ m4, h.2.2 _ m5, h.2.2 _ m6, h.2.2 _ m7⟩) (fun _ _ _ h => h) _ _ (tri (cs_R3.2.2.2 w t t1 t2 u0_0 u0_2 u0_4 u0_6 u1_3 ur0 ur1 ub1 ub0 v0_0 v0_2 v0_3 v2_32 v3_6 n0_0 n1_0 uu p) (by kernel_rfl) hkb (by decide) hN ht hg hk (mc h0 <| mc h1 <| mc h2 <| mc h3 <| mn) hs (fa_cons (fun RX => spOK_of rfl rfl (sp_base hkb hk) rfl rfl c0 e0 rfl rfl rfl rfl (sp_keep g0)) <| fa_cons (fun RX => spOK_of rfl rfl (sp_base hkb hk) rfl rfl c1 e1 rfl rfl rfl rfl (sp_keep g1)) <| fa_nil))

end
end Mine
end
section
set_option maxRecDepth 100000
set_option linter.unusedVariables false
open PySem PySem.W PySem.Calls PyProof.Rows
open PySem.Sem (wp)
namespace Mine
noncomputable section
def r_p5y (w : World) (N t t1 u0_0 u0_2 u0_4 u0_6 u0_8 u1_3 ur0 ub0 : Nat) (v0_0 v0_2 v0_3 v0_4 v2_32 : Value) (n0_0 : Obj) (uu : Nat) (p : Pos) : St :=
  runE (VL w (kt2 w.params uu) [1095, 1100, 1106, 1305] (N + 1090) t [(1, t1)] [⟨some [lawCode], (.call (.ref 1083) ⟨[(.ref 1100), (iv 3 (tk (t + 0)))], []⟩), 1, 0, 1, [(1, (box 3 u1_3))], (iv 2 (tk ur0)), [(1, (box 4 ub0))], [n0_0]⟩] belL) 53 [(0, (loc5 w.params (tk u0_0) v0_0 (tk u0_2) (.ref 1107) (tk u0_4) v0_2 (tk u0_6) v0_3 (tk u0_8) v0_4)),
    (1, (box 4 ub0)),
    (2, (sh1106 w.params uu v2_32)),
    (3, (ls #[(.ref ((N + 1090) + 1))] 1))] .next 2 5 lawCode p [] (tree 5 1) (mkT [(loc5 w.params (tk u0_0) v0_0 (tk u0_2) (.ref 1107) (tk u0_4) v0_2 (tk u0_6) v0_3 (tk u0_8) v0_4),
    (box 3 u1_3),
    (sh1106 w.params uu v2_32),
    (ls #[] 0)] 0 .nil) 0 0 0 (dec [0x555515555411111111111121122200ca111]) .nil
def r_p5n0 (w : World) (N t t1 u0_3 ur0 ub0 : Nat) (n0_0 : Obj) (uu : Nat) (p : Pos) : St :=
  runE (VL w (kt2 w.params uu) [1100] (N + 1090) t [(1, t1)] [⟨some [lawCode], (.call (.ref 1083) ⟨[(.ref 1100), (iv 3 (tk (t + 0)))], []⟩), 1, 0, 1, [(0, (box 3 u0_3))], (iv 0 (tk ur0)), [(0, (box 4 ub0))], [n0_0]⟩] belL) 15 [(0, (box 4 ub0))] .next 1 3 lawCode p [] (tree 5 1) (mkT [(box 3 u0_3)] 0 .nil) 0 0 0 (dec [0x1122200ca111]) .nil
def r_p5n1 (w : World) (N t t1 u0_3 ur0 ub0 : Nat) (n0_0 : Obj) (uu : Nat) (p : Pos) : St :=
  runE (VL w (kt2 w.params uu) [1100] (N + 1090) t [(1, t1)] [⟨some [lawCode], (.call (.ref 1083) ⟨[(.ref 1100), (iv 3 (tk (t + 0)))], []⟩), 1, 0, 1, [(0, (box 3 u0_3))], (iv 1 (tk ur0)), [(0, (box 4 ub0))], [n0_0]⟩] belL) 15 [(0, (box 4 ub0))] .next 1 3 lawCode p [] (tree 5 1) (mkT [(box 3 u0_3)] 0 .nil) 0 0 0 (dec [0x1122200ca111]) .nil
def r_p62y (w : World) (N t t1 t2 u0_0 u0_2 u0_4 u0_6 u0_8 u1_3 u3_3 u3_25 ur1 ur0 ub1 ub0 : Nat) (v0_0 v0_2 v0_4 v2_32 : Value) (n0_0 n1_0 : Obj) (uu : Nat) (p : Pos) : St :=
  runE (VL w (kt2 w.params uu) [1095, 1100, 1106, 1202] (N + 1090) t [(1, t1), (2, t2)] [⟨some [lawCode], (.call (.ref 1083) ⟨[(.ref 1100), (iv 3 (tk (t + 0)))], []⟩), 1, 0, 1, [(1, (box 4 u1_3))], (iv 2 (tk ur0)), [(1, (box 5 ub0))], [n0_0]⟩, ⟨some [lawCode], (.call (.ref 1083) ⟨[(.ref 1100), (iv 2 (tk (t1 + 1)))], []⟩), 4, 1, 1, [(1, (box 5 ub0))], (iv 1 (tk ur1)), [(1, (box 6 ub1))], [n1_0]⟩] belL) 845 [(0, (loc8 w.params (tk u0_0) v0_0 (tk u0_2) (.ref 1107) (tk u0_4) v0_2 (tk u0_6) (.ref 1203) (tk u0_8) v0_4 (tk (t2 + 3)) (.ref 1187) (tk (t2 + 4)) (iv 1 (tk ur1)) (tk (t2 + 5)) (.bool true))),
    (1, (box 6 ub1)),
    (2, (sh1106 w.params uu v2_32)),
    (3, (sh1202 w.params uu (iv 0 (tk u3_3)) .none (.ref ((N + 1090) + 19)) (iv 4 (tk (t2 + 6))) (iv 1000 (tk (t2 + 7))) (iv 1000 (tk (t2 + 7))) (iv 1 (tk (t2 + 42))) (.bool false) (.bool true)))] .next 25 57 lawCode p [] (tree 6 2) (mkT [(loc5 w.params (tk u0_0) v0_0 (tk u0_2) (.ref 1107) (tk u0_4) v0_2 (tk u0_6) (.ref 1203) (tk u0_8) v0_4),
    (box 4 u1_3),
    (sh1106 w.params uu v2_32),
    (sh1202 w.params uu (iv 0 (tk u3_3)) .none (.ref 1207) .none .none .none (iv 0 (tk u3_25)) (.bool false) (.bool false))] 0 .nil) 0 0 0 (dec [0x9899919998999199811222888112111411111111111121a1111122200ca111, 0x100100100cc1111151111111111111122221221221b99899919998999199, 0x100ec111110001100100dc11111051111111111110100151111111111110100cc1, 0x10114c11122211000100ec113c011c10c00010011c10c00010011c10c0001011c0112220010c100100ec, 0x1111111111110cc1ac11222100119c1011101ac111110100cc118c0fc18c010fc18c0fc0000ec16c0010014c, 0x1cc1bc000101cc011222001bc0051111111111110112220cc11222100119c10cc115551111, 0x105551111111111111111055511111111111111110cc1ec01cc1bc0001001cc1bc000101cc, 0x111111055511111111111111111511111111111100cc555111111111111111, 0x11111111110112221511111111111100555111111111111111100cc5111111, 0x112220cc11222511]) .nil
def r_p62n (w : World) (N t t1 t2 u0_0 u0_2 u0_4 u0_6 u0_8 u1_3 u3_3 u3_25 ur1 ur0 ub1 ub0 : Nat) (v0_0 v0_2 v0_4 v2_32 : Value) (n0_0 n1_0 : Obj) (uu : Nat) (p : Pos) : St :=
  runE (VL w (kt2 w.params uu) [1095, 1100, 1106, 1202] (N + 1090) t [(1, t1), (2, t2)] [⟨some [lawCode], (.call (.ref 1083) ⟨[(.ref 1100), (iv 3 (tk (t + 0)))], []⟩), 1, 0, 1, [(1, (box 4 u1_3))], (iv 2 (tk ur0)), [(1, (box 5 ub0))], [n0_0]⟩, ⟨some [lawCode], (.call (.ref 1083) ⟨[(.ref 1100), (iv 2 (tk (t1 + 1)))], []⟩), 4, 1, 1, [(1, (box 5 ub0))], (iv 0 (tk ur1)), [(1, (box 6 ub1))], [n1_0]⟩] belL) 845 [(0, (loc8 w.params (tk u0_0) v0_0 (tk u0_2) (.ref 1107) (tk u0_4) v0_2 (tk u0_6) (.ref 1203) (tk u0_8) v0_4 (tk (t2 + 3)) (.ref 1187) (tk (t2 + 4)) (iv 0 (tk ur1)) (tk (t2 + 5)) (.bool true))),
    (1, (box 6 ub1)),
    (2, (sh1106 w.params uu v2_32)),
    (3, (sh1202 w.params uu (iv 0 (tk u3_3)) .none (.ref ((N + 1090) + 19)) (iv 4 (tk (t2 + 6))) (iv 1000 (tk (t2 + 7))) (iv 1000 (tk (t2 + 7))) (iv 1 (tk (t2 + 42))) (.bool false) (.bool true)))] .next 25 57 lawCode p [] (tree 6 2) (mkT [(loc5 w.params (tk u0_0) v0_0 (tk u0_2) (.ref 1107) (tk u0_4) v0_2 (tk u0_6) (.ref 1203) (tk u0_8) v0_4),
    (box 4 u1_3),
    (sh1106 w.params uu v2_32),
    (sh1202 w.params uu (iv 0 (tk u3_3)) .none (.ref 1207) .none .none .none (iv 0 (tk u3_25)) (.bool false) (.bool false))] 0 .nil) 0 0 0 (dec [0x9899919998999199811222888112111411111111111121a1111122200ca111, 0x100100100cc1111151111111111111122221221221b99899919998999199, 0x100ec111110001100100dc11111051111111111110100151111111111110100cc1, 0x10114c11122211000100ec113c011c10c00010011c10c00010011c10c0001011c0112220010c100100ec, 0x1111111111110cc1ac11222100119c1011101ac111110100cc118c0fc18c010fc18c0fc0000ec16c0010014c, 0x1cc1bc000101cc011222001bc0051111111111110112220cc11222100119c10cc115551111, 0x105551111111111111111055511111111111111110cc1ec01cc1bc0001001cc1bc000101cc, 0x111111055511111111111111111511111111111100cc555111111111111111, 0x11111111110112221511111111111100555111111111111111100cc5111111, 0x112220cc11222511]) .nil
def r_p60y (w : World) (N t t1 t2 u0_0 u0_2 u0_4 u0_6 u0_8 u1_3 ur1 ur0 ub1 ub0 : Nat) (v0_0 v0_2 v0_3 v0_4 v2_32 : Value) (n0_0 n1_0 : Obj) (uu : Nat) (p : Pos) : St :=
  runE (VL w (kt2 w.params uu) [1095, 1100, 1106] (N + 1090) t [(1, t1), (2, t2)] [⟨some [lawCode], (.call (.ref 1083) ⟨[(.ref 1100), (iv 3 (tk (t + 0)))], []⟩), 1, 0, 1, [(1, (box 4 u1_3))], (iv 0 (tk ur0)), [(1, (box 5 ub0))], [n0_0]⟩, ⟨some [lawCode], (.call (.ref 1083) ⟨[(.ref 1100), (iv 2 (tk (t1 + 1)))], []⟩), 4, 1, 1, [(1, (box 5 ub0))], (iv 1 (tk ur1)), [(1, (box 6 ub1))], [n1_0]⟩] belL) 130 [(0, (loc8 w.params (tk u0_0) v0_0 (tk u0_2) (.ref 1107) (tk u0_4) v0_2 (tk u0_6) v0_3 (tk u0_8) v0_4 (tk (t2 + 3)) (.ref 1187) (tk (t2 + 4)) (iv 1 (tk ur1)) (tk (t2 + 5)) (.bool false))),
    (1, (box 6 ub1)),
    (2, (sh1106 w.params uu v2_32))] .next 6 11 lawCode p [] (tree 6 2) (mkT [(loc5 w.params (tk u0_0) v0_0 (tk u0_2) (.ref 1107) (tk u0_4) v0_2 (tk u0_6) v0_3 (tk u0_8) v0_4),
    (box 4 u1_3),
    (sh1106 w.params uu v2_32)] 0 .nil) 0 0 0 (dec [0x8788818887888188711222777112111411111111111121a1111122200ca111, 0x2221221221a88788818887888188]) .nil
def r_p60n (w : World) (N t t1 t2 u0_0 u0_2 u0_4 u0_6 u0_8 u1_3 ur1 ur0 ub1 ub0 : Nat) (v0_0 v0_2 v0_3 v0_4 v2_32 : Value) (n0_0 n1_0 : Obj) (uu : Nat) (p : Pos) : St :=
  runE (VL w (kt2 w.params uu) [1095, 1100, 1106] (N + 1090) t [(1, t1), (2, t2)] [⟨some [lawCode], (.call (.ref 1083) ⟨[(.ref 1100), (iv 3 (tk (t + 0)))], []⟩), 1, 0, 1, [(1, (box 4 u1_3))], (iv 0 (tk ur0)), [(1, (box 5 ub0))], [n0_0]⟩, ⟨some [lawCode], (.call (.ref 1083) ⟨[(.ref 1100), (iv 2 (tk (t1 + 1)))], []⟩), 4, 1, 1, [(1, (box 5 ub0))], (iv 0 (tk ur1)), [(1, (box 6 ub1))], [n1_0]⟩] belL) 130 [(0, (loc8 w.params (tk u0_0) v0_0 (tk u0_2) (.ref 1107) (tk u0_4) v0_2 (tk u0_6) v0_3 (tk u0_8) v0_4 (tk (t2 + 3)) (.ref 1187) (tk (t2 + 4)) (iv 0 (tk ur1)) (tk (t2 + 5)) (.bool false))),
    (1, (box 6 ub1)),
    (2, (sh1106 w.params uu v2_32))] .next 6 11 lawCode p [] (tree 6 2) (mkT [(loc5 w.params (tk u0_0) v0_0 (tk u0_2) (.ref 1107) (tk u0_4) v0_2 (tk u0_6) v0_3 (tk u0_8) v0_4),
    (box 4 u1_3),
    (sh1106 w.params uu v2_32)] 0 .nil) 0 0 0 (dec [0x8788818887888188711222777112111411111111111121a1111122200ca111, 0x2221221221a88788818887888188]) .nil
def r_p61y (w : World) (N t t1 t2 u0_0 u0_2 u0_4 u0_6 u0_8 u1_3 ur1 ur0 ub1 ub0 : Nat) (v0_0 v0_2 v0_3 v0_4 v2_32 : Value) (n0_0 n1_0 : Obj) (uu : Nat) (p : Pos) : St :=
  runE (VL w (kt2 w.params uu) [1095, 1100, 1106] (N + 1090) t [(1, t1), (2, t2)] [⟨some [lawCode], (.call (.ref 1083) ⟨[(.ref 1100), (iv 3 (tk (t + 0)))], []⟩), 1, 0, 1, [(1, (box 4 u1_3))], (iv 1 (tk ur0)), [(1, (box 5 ub0))], [n0_0]⟩, ⟨some [lawCode], (.call (.ref 1083) ⟨[(.ref 1100), (iv 2 (tk (t1 + 1)))], []⟩), 4, 1, 1, [(1, (box 5 ub0))], (iv 1 (tk ur1)), [(1, (box 6 ub1))], [n1_0]⟩] belL) 130 [(0, (loc8 w.params (tk u0_0) v0_0 (tk u0_2) (.ref 1107) (tk u0_4) v0_2 (tk u0_6) v0_3 (tk u0_8) v0_4 (tk (t2 + 3)) (.ref 1187) (tk (t2 + 4)) (iv 1 (tk ur1)) (tk (t2 + 5)) (.bool false))),
    (1, (box 6 ub1)),
    (2, (sh1106 w.params uu v2_32))] .next 6 11 lawCode p [] (tree 6 2) (mkT [(loc5 w.params (tk u0_0) v0_0 (tk u0_2) (.ref 1107) (tk u0_4) v0_2 (tk u0_6) v0_3 (tk u0_8) v0_4),
    (box 4 u1_3),
    (sh1106 w.params uu v2_32)] 0 .nil) 0 0 0 (dec [0x8788818887888188711222777112111411111111111121a1111122200ca111, 0x2221221221a88788818887888188]) .nil
def r_p61n (w : World) (N t t1 t2 u0_0 u0_2 u0_4 u0_6 u0_8 u1_3 ur1 ur0 ub1 ub0 : Nat) (v0_0 v0_2 v0_3 v0_4 v2_32 : Value) (n0_0 n1_0 : Obj) (uu : Nat) (p : Pos) : St :=
  runE (VL w (kt2 w.params uu) [1095, 1100, 1106] (N + 1090) t [(1, t1), (2, t2)] [⟨some [lawCode], (.call (.ref 1083) ⟨[(.ref 1100), (iv 3 (tk (t + 0)))], []⟩), 1, 0, 1, [(1, (box 4 u1_3))], (iv 1 (tk ur0)), [(1, (box 5 ub0))], [n0_0]⟩, ⟨some [lawCode], (.call (.ref 1083) ⟨[(.ref 1100), (iv 2 (tk (t1 + 1)))], []⟩), 4, 1, 1, [(1, (box 5 ub0))], (iv 0 (tk ur1)), [(1, (box 6 ub1))], [n1_0]⟩] belL) 130 [(0, (loc8 w.params (tk u0_0) v0_0 (tk u0_2) (.ref 1107) (tk u0_4) v0_2 (tk u0_6) v0_3 (tk u0_8) v0_4 (tk (t2 + 3)) (.ref 1187) (tk (t2 + 4)) (iv 0 (tk ur1)) (tk (t2 + 5)) (.bool false))),
    (1, (box 6 ub1)),
    (2, (sh1106 w.params uu v2_32))] .next 6 11 lawCode p [] (tree 6 2) (mkT [(loc5 w.params (tk u0_0) v0_0 (tk u0_2) (.ref 1107) (tk u0_4) v0_2 (tk u0_6) v0_3 (tk u0_8) v0_4),
    (box 4 u1_3),
    (sh1106 w.params uu v2_32)] 0 .nil) 0 0 0 (dec [0x8788818887888188711222777112111411111111111121a1111122200ca111, 0x2221221221a88788818887888188]) .nil
def r_p8y (w : World) (N t u0_0 u0_2 u0_4 u0_6 u0_8 u0_10 u0_12 u0_13 u0_14 u2_1 : Nat) (v0_0 v0_2 v0_3 v0_4 v0_5 v0_7 v1_32 : Value) (uu : Nat) (p : Pos) : St :=
  runE (VL w (kt2 w.params uu) [1095, 1106, 1221] (N + 1090) t [] [] belL) 418 [(0, (loc8 w.params (tk u0_0) v0_0 (tk u0_2) (.ref 1107) (tk u0_4) v0_2 (tk u0_6) v0_3 (tk u0_8) v0_4 (tk u0_10) v0_5 (tk u0_12) (iv 1 (tk u0_13)) (tk u0_14) v0_7)),
    (1, (sh1106 w.params uu v1_32)),
    (2, (sh1221 w.params uu (.bytes #[120] (tk (t + 4))) (.ref ((N + 1090) + 12)))),
    (15, (ls #[(.ref ((N + 1090) + 10))] 0))] .next 13 27 lawCode p [] (tree 8 1) (mkT [(loc8 w.params (tk u0_0) v0_0 (tk u0_2) (.ref 1107) (tk u0_4) v0_2 (tk u0_6) v0_3 (tk u0_8) v0_4 (tk u0_10) v0_5 (tk u0_12) (iv 1 (tk u0_13)) (tk u0_14) v0_7),
    (sh1106 w.params uu v1_32),
    (sh1221 w.params uu (.bytes #[] (tk u2_1)) (.ref 1224))] 0 .nil) 0 0 0 (dec [0x111111511551551111141111111111111111211131111111111112112222, 0x166166111111115111141111111111115111141111111111115114111111, 0x111222116661661b99899919998999199989991998112228881122266166, 0x515411111111111154441111111111111111507071710c766660ec0010001010cc, 0x4441111111111111111]) .nil
def r_p8n (w : World) (N t u0_0 u0_2 u0_4 u0_6 u0_8 u0_10 u0_12 u0_13 u0_14 : Nat) (v0_0 v0_1 v0_2 v0_3 v0_4 v0_5 v0_7 : Value) (uu : Nat) (p : Pos) : St :=
  runE (VL w (kt2 w.params uu) [1095] (N + 1090) t [] [] belL) 8 [(0, (loc8 w.params (tk u0_0) v0_0 (tk u0_2) v0_1 (tk u0_4) v0_2 (tk u0_6) v0_3 (tk u0_8) v0_4 (tk u0_10) v0_5 (tk u0_12) (iv 0 (tk u0_13)) (tk u0_14) v0_7))] .next 0 1 lawCode p [] (tree 8 1) (mkT [(loc8 w.params (tk u0_0) v0_0 (tk u0_2) v0_1 (tk u0_4) v0_2 (tk u0_6) v0_3 (tk u0_8) v0_4 (tk u0_10) v0_5 (tk u0_12) (iv 0 (tk u0_13)) (tk u0_14) v0_7)] 0 .nil) 0 0 0 (dec [0x112222]) .nil
def r_p900 (w : World) (N t t1 t2 u0_0 u0_2 u0_4 u0_6 u0_8 u0_10 u0_12 u0_14 u1_3 ur0 ur1 ub1 ub0 : Nat) (v0_0 v0_2 v0_3 v0_4 v0_6 v0_7 v2_32 v3_16 v4_1 v4_2 : Value) (n0_0 n1_0 : Obj) (uu : Nat) (p : Pos) : St :=
  runE (VL w (kt2 w.params uu) [1095, 1100, 1106, 1186, 1260] (N + 1090) t [(1, t1), (5, t2)] [⟨some [lawCode], (.call (.ref 1083) ⟨[(.ref 1100), (iv 2 (tk (t + 0)))], []⟩), 1, 0, 1, [(1, (box 6 u1_3))], (iv 0 (tk ur0)), [(1, (box 7 ub0))], [n0_0]⟩, ⟨some [lawCode], (.call (.ref 1083) ⟨[(.ref 1100), (iv 3 (tk (t1 + 4)))], []⟩), 7, 2, 1, [(1, (box 7 ub0))], (iv 0 (tk ur1)), [(1, (box 8 ub1))], [n1_0]⟩] belL) 137 [(0, (loc8 w.params (tk u0_0) v0_0 (tk u0_2) (.ref 1107) (tk u0_4) v0_2 (tk u0_6) v0_3 (tk u0_8) v0_4 (tk u0_10) (.ref 1187) (tk u0_12) v0_6 (tk u0_14) v0_7)),
    (1, (box 8 ub1)),
    (2, (sh1106 w.params uu v2_32)),
    (3, (sh1186 w.params uu (.bool false))),
    (4, (sh1260 w.params uu (iv 0 (tk (t1 + 1))) v4_2))] .next 7 13 lawCode p [] (tree 9 1) (mkT [(loc8 w.params (tk u0_0) v0_0 (tk u0_2) (.ref 1107) (tk u0_4) v0_2 (tk u0_6) v0_3 (tk u0_8) v0_4 (tk u0_10) (.ref 1187) (tk u0_12) v0_6 (tk u0_14) v0_7),
    (box 6 u1_3),
    (sh1106 w.params uu v2_32),
    (sh1186 w.params uu v3_16),
    (sh1260 w.params uu v4_1 v4_2)] 0 .nil) 0 0 0 (dec [0x1120dcbbabbb1bbbabbb1bbbabbb1bba11222aaa18818881a1111122200ca111, 0x65664111111111111255511111111111111]) .nil
def r_p901 (w : World) (N t t1 t2 u0_0 u0_2 u0_4 u0_6 u0_8 u0_10 u0_12 u0_14 u1_3 ur0 ur1 ub1 ub0 : Nat) (v0_0 v0_2 v0_3 v0_4 v0_6 v0_7 v2_32 v3_16 v4_1 v4_2 : Value) (n0_0 n1_0 : Obj) (uu : Nat) (p : Pos) : St :=
  runE (VL w (kt2 w.params uu) [1095, 1100, 1106, 1186, 1260] (N + 1090) t [(1, t1), (5, t2)] [⟨some [lawCode], (.call (.ref 1083) ⟨[(.ref 1100), (iv 2 (tk (t + 0)))], []⟩), 1, 0, 1, [(1, (box 6 u1_3))], (iv 0 (tk ur0)), [(1, (box 7 ub0))], [n0_0]⟩, ⟨some [lawCode], (.call (.ref 1083) ⟨[(.ref 1100), (iv 3 (tk (t1 + 4)))], []⟩), 7, 2, 1, [(1, (box 7 ub0))], (iv 1 (tk ur1)), [(1, (box 8 ub1))], [n1_0]⟩] belL) 137 [(0, (loc8 w.params (tk u0_0) v0_0 (tk u0_2) (.ref 1107) (tk u0_4) v0_2 (tk u0_6) v0_3 (tk u0_8) v0_4 (tk u0_10) (.ref 1187) (tk u0_12) v0_6 (tk u0_14) v0_7)),
    (1, (box 8 ub1)),
    (2, (sh1106 w.params uu v2_32)),
    (3, (sh1186 w.params uu (.bool false))),
    (4, (sh1260 w.params uu (iv 0 (tk (t1 + 2))) v4_2))] .next 7 13 lawCode p [] (tree 9 1) (mkT [(loc8 w.params (tk u0_0) v0_0 (tk u0_2) (.ref 1107) (tk u0_4) v0_2 (tk u0_6) v0_3 (tk u0_8) v0_4 (tk u0_10) (.ref 1187) (tk u0_12) v0_6 (tk u0_14) v0_7),
    (box 6 u1_3),
    (sh1106 w.params uu v2_32),
    (sh1186 w.params uu v3_16),
    (sh1260 w.params uu v4_1 v4_2)] 0 .nil) 0 0 0 (dec [0x1120dcbbabbb1bbbabbb1bbbabbb1bba11222aaa18818881a1111122200ca111, 0x65664111111111111255511111111111111]) .nil
def r_p902 (w : World) (N t t1 t2 u0_0 u0_2 u0_4 u0_6 u0_8 u0_10 u0_12 u0_14 u1_3 ur0 ur1 ub1 ub0 : Nat) (v0_0 v0_2 v0_3 v0_4 v0_6 v0_7 v2_32 v3_16 v4_1 v4_2 : Value) (n0_0 n1_0 : Obj) (uu : Nat) (p : Pos) : St :=
  runE (VL w (kt2 w.params uu) [1095, 1100, 1106, 1186, 1260] (N + 1090) t [(1, t1), (5, t2)] [⟨some [lawCode], (.call (.ref 1083) ⟨[(.ref 1100), (iv 2 (tk (t + 0)))], []⟩), 1, 0, 1, [(1, (box 6 u1_3))], (iv 0 (tk ur0)), [(1, (box 7 ub0))], [n0_0]⟩, ⟨some [lawCode], (.call (.ref 1083) ⟨[(.ref 1100), (iv 3 (tk (t1 + 4)))], []⟩), 7, 2, 1, [(1, (box 7 ub0))], (iv 2 (tk ur1)), [(1, (box 8 ub1))], [n1_0]⟩] belL) 137 [(0, (loc8 w.params (tk u0_0) v0_0 (tk u0_2) (.ref 1107) (tk u0_4) v0_2 (tk u0_6) v0_3 (tk u0_8) v0_4 (tk u0_10) (.ref 1187) (tk u0_12) v0_6 (tk u0_14) v0_7)),
    (1, (box 8 ub1)),
    (2, (sh1106 w.params uu v2_32)),
    (3, (sh1186 w.params uu (.bool false))),
    (4, (sh1260 w.params uu (iv 2 (tk (t1 + 3))) v4_2))] .next 7 13 lawCode p [] (tree 9 1) (mkT [(loc8 w.params (tk u0_0) v0_0 (tk u0_2) (.ref 1107) (tk u0_4) v0_2 (tk u0_6) v0_3 (tk u0_8) v0_4 (tk u0_10) (.ref 1187) (tk u0_12) v0_6 (tk u0_14) v0_7),
    (box 6 u1_3),
    (sh1106 w.params uu v2_32),
    (sh1186 w.params uu v3_16),
    (sh1260 w.params uu v4_1 v4_2)] 0 .nil) 0 0 0 (dec [0x1120dcbbabbb1bbbabbb1bbbabbb1bba11222aaa18818881a1111122200ca111, 0x65664111111111111255511111111111111]) .nil
def r_p910 (w : World) (N t t1 t2 u0_0 u0_2 u0_4 u0_6 u0_8 u0_10 u0_12 u0_14 u1_3 ur0 ur1 ub1 ub0 : Nat) (v0_0 v0_2 v0_3 v0_4 v0_6 v0_7 v2_32 v3_16 v4_1 v4_2 : Value) (n0_0 n1_0 : Obj) (uu : Nat) (p : Pos) : St :=
  runE (VL w (kt2 w.params uu) [1095, 1100, 1106, 1186, 1260] (N + 1090) t [(1, t1), (5, t2)] [⟨some [lawCode], (.call (.ref 1083) ⟨[(.ref 1100), (iv 2 (tk (t + 0)))], []⟩), 1, 0, 1, [(1, (box 6 u1_3))], (iv 1 (tk ur0)), [(1, (box 7 ub0))], [n0_0]⟩, ⟨some [lawCode], (.call (.ref 1083) ⟨[(.ref 1100), (iv 3 (tk (t1 + 4)))], []⟩), 7, 2, 1, [(1, (box 7 ub0))], (iv 0 (tk ur1)), [(1, (box 8 ub1))], [n1_0]⟩] belL) 137 [(0, (loc8 w.params (tk u0_0) v0_0 (tk u0_2) (.ref 1107) (tk u0_4) v0_2 (tk u0_6) v0_3 (tk u0_8) v0_4 (tk u0_10) (.ref 1187) (tk u0_12) v0_6 (tk u0_14) v0_7)),
    (1, (box 8 ub1)),
    (2, (sh1106 w.params uu v2_32)),
    (3, (sh1186 w.params uu (.bool true))),
    (4, (sh1260 w.params uu (iv 0 (tk (t1 + 1))) v4_2))] .next 7 13 lawCode p [] (tree 9 1) (mkT [(loc8 w.params (tk u0_0) v0_0 (tk u0_2) (.ref 1107) (tk u0_4) v0_2 (tk u0_6) v0_3 (tk u0_8) v0_4 (tk u0_10) (.ref 1187) (tk u0_12) v0_6 (tk u0_14) v0_7),
    (box 6 u1_3),
    (sh1106 w.params uu v2_32),
    (sh1186 w.params uu v3_16),
    (sh1260 w.params uu v4_1 v4_2)] 0 .nil) 0 0 0 (dec [0x1120dcbbabbb1bbbabbb1bbbabbb1bba11222aaa18818881a1111122200ca111, 0x65664111111111111255511111111111111]) .nil
def r_p911 (w : World) (N t t1 t2 u0_0 u0_2 u0_4 u0_6 u0_8 u0_10 u0_12 u0_14 u1_3 ur0 ur1 ub1 ub0 : Nat) (v0_0 v0_2 v0_3 v0_4 v0_6 v0_7 v2_32 v3_16 v4_1 v4_2 : Value) (n0_0 n1_0 : Obj) (uu : Nat) (p : Pos) : St :=
  runE (VL w (kt2 w.params uu) [1095, 1100, 1106, 1186, 1260] (N + 1090) t [(1, t1), (5, t2)] [⟨some [lawCode], (.call (.ref 1083) ⟨[(.ref 1100), (iv 2 (tk (t + 0)))], []⟩), 1, 0, 1, [(1, (box 6 u1_3))], (iv 1 (tk ur0)), [(1, (box 7 ub0))], [n0_0]⟩, ⟨some [lawCode], (.call (.ref 1083) ⟨[(.ref 1100), (iv 3 (tk (t1 + 4)))], []⟩), 7, 2, 1, [(1, (box 7 ub0))], (iv 1 (tk ur1)), [(1, (box 8 ub1))], [n1_0]⟩] belL) 137 [(0, (loc8 w.params (tk u0_0) v0_0 (tk u0_2) (.ref 1107) (tk u0_4) v0_2 (tk u0_6) v0_3 (tk u0_8) v0_4 (tk u0_10) (.ref 1187) (tk u0_12) v0_6 (tk u0_14) v0_7)),
    (1, (box 8 ub1)),
    (2, (sh1106 w.params uu v2_32)),
    (3, (sh1186 w.params uu (.bool true))),
    (4, (sh1260 w.params uu (iv 0 (tk (t1 + 2))) v4_2))] .next 7 13 lawCode p [] (tree 9 1) (mkT [(loc8 w.params (tk u0_0) v0_0 (tk u0_2) (.ref 1107) (tk u0_4) v0_2 (tk u0_6) v0_3 (tk u0_8) v0_4 (tk u0_10) (.ref 1187) (tk u0_12) v0_6 (tk u0_14) v0_7),
    (box 6 u1_3),
    (sh1106 w.params uu v2_32),
    (sh1186 w.params uu v3_16),
    (sh1260 w.params uu v4_1 v4_2)] 0 .nil) 0 0 0 (dec [0x1120dcbbabbb1bbbabbb1bbbabbb1bba11222aaa18818881a1111122200ca111, 0x65664111111111111255511111111111111]) .nil
def r_p912 (w : World) (N t t1 t2 u0_0 u0_2 u0_4 u0_6 u0_8 u0_10 u0_12 u0_14 u1_3 ur0 ur1 ub1 ub0 : Nat) (v0_0 v0_2 v0_3 v0_4 v0_6 v0_7 v2_32 v3_16 v4_1 v4_2 : Value) (n0_0 n1_0 : Obj) (uu : Nat) (p : Pos) : St :=
  runE (VL w (kt2 w.params uu) [1095, 1100, 1106, 1186, 1260] (N + 1090) t [(1, t1), (5, t2)] [⟨some [lawCode], (.call (.ref 1083) ⟨[(.ref 1100), (iv 2 (tk (t + 0)))], []⟩), 1, 0, 1, [(1, (box 6 u1_3))], (iv 1 (tk ur0)), [(1, (box 7 ub0))], [n0_0]⟩, ⟨some [lawCode], (.call (.ref 1083) ⟨[(.ref 1100), (iv 3 (tk (t1 + 4)))], []⟩), 7, 2, 1, [(1, (box 7 ub0))], (iv 2 (tk ur1)), [(1, (box 8 ub1))], [n1_0]⟩] belL) 137 [(0, (loc8 w.params (tk u0_0) v0_0 (tk u0_2) (.ref 1107) (tk u0_4) v0_2 (tk u0_6) v0_3 (tk u0_8) v0_4 (tk u0_10) (.ref 1187) (tk u0_12) v0_6 (tk u0_14) v0_7)),
    (1, (box 8 ub1)),
    (2, (sh1106 w.params uu v2_32)),
    (3, (sh1186 w.params uu (.bool true))),
    (4, (sh1260 w.params uu (iv 2 (tk (t1 + 3))) v4_2))] .next 7 13 lawCode p [] (tree 9 1) (mkT [(loc8 w.params (tk u0_0) v0_0 (tk u0_2) (.ref 1107) (tk u0_4) v0_2 (tk u0_6) v0_3 (tk u0_8) v0_4 (tk u0_10) (.ref 1187) (tk u0_12) v0_6 (tk u0_14) v0_7),
    (box 6 u1_3),
    (sh1106 w.params uu v2_32),
    (sh1186 w.params uu v3_16),
    (sh1260 w.params uu v4_1 v4_2)] 0 .nil) 0 0 0 (dec [0x1120dcbbabbb1bbbabbb1bbbabbb1bba11222aaa18818881a1111122200ca111, 0x65664111111111111255511111111111111]) .nil
theorem cs_R5 :
  (∀ (w : World) (N t t1 u0_0 u0_2 u0_4 u0_6 u0_8 u1_3 ur0 ub0 : Nat) (v0_0 v0_2 v0_3 v0_4 v2_32 : Value) (n0_0 : Obj) (uu : Nat) (p : Pos), okR (r_p5y w N t t1 u0_0 u0_2 u0_4 u0_6 u0_8 u1_3 ur0 ub0 v0_0 v0_2 v0_3 v0_4 v2_32 n0_0 uu p)) ∧
  (∀ (w : World) (N t t1 u0_3 ur0 ub0 : Nat) (n0_0 : Obj) (uu : Nat) (p : Pos), okR (r_p5n0 w N t t1 u0_3 ur0 ub0 n0_0 uu p)) ∧
  (∀ (w : World) (N t t1 u0_3 ur0 ub0 : Nat) (n0_0 : Obj) (uu : Nat) (p : Pos), okR (r_p5n1 w N t t1 u0_3 ur0 ub0 n0_0 uu p)) ∧
  (∀ (w : World) (N t t1 t2 u0_0 u0_2 u0_4 u0_6 u0_8 u1_3 u3_3 u3_25 ur1 ur0 ub1 ub0 : Nat) (v0_0 v0_2 v0_4 v2_32 : Value) (n0_0 n1_0 : Obj) (uu : Nat) (p : Pos), okR (r_p62y w N t t1 t2 u0_0 u0_2 u0_4 u0_6 u0_8 u1_3 u3_3 u3_25 ur1 ur0 ub1 ub0 v0_0 v0_2 v0_4 v2_32 n0_0 n1_0 uu p)) ∧
  (∀ (w : World) (N t t1 t2 u0_0 u0_2 u0_4 u0_6 u0_8 u1_3 u3_3 u3_25 ur1 ur0 ub1 ub0 : Nat) (v0_0 v0_2 v0_4 v2_32 : Value) (n0_0 n1_0 : Obj) (uu : Nat) (p : Pos), okR (r_p62n w N t t1 t2 u0_0 u0_2 u0_4 u0_6 u0_8 u1_3 u3_3 u3_25 ur1 ur0 ub1 ub0 v0_0 v0_2 v0_4 v2_32 n0_0 n1_0 uu p)) ∧
  (∀ (w : World) (N t t1 t2 u0_0 u0_2 u0_4 u0_6 u0_8 u1_3 ur1 ur0 ub1 ub0 : Nat) (v0_0 v0_2 v0_3 v0_4 v2_32 : Value) (n0_0 n1_0 : Obj) (uu : Nat) (p : Pos), okR (r_p60y w N t t1 t2 u0_0 u0_2 u0_4 u0_6 u0_8 u1_3 ur1 ur0 ub1 ub0 v0_0 v0_2 v0_3 v0_4 v2_32 n0_0 n1_0 uu p)) ∧
  (∀ (w : World) (N t t1 t2 u0_0 u0_2 u0_4 u0_6 u0_8 u1_3 ur1 ur0 ub1 ub0 : Nat) (v0_0 v0_2 v0_3 v0_4 v2_32 : Value) (n0_0 n1_0 : Obj) (uu : Nat) (p : Pos), okR (r_p60n w N t t1 t2 u0_0 u0_2 u0_4 u0_6 u0_8 u1_3 ur1 ur0 ub1 ub0 v0_0 v0_2 v0_3 v0_4 v2_32 n0_0 n1_0 uu p)) ∧
  (∀ (w : World) (N t t1 t2 u0_0 u0_2 u0_4 u0_6 u0_8 u1_3 ur1 ur0 ub1 ub0 : Nat) (v0_0 v0_2 v0_3 v0_4 v2_32 : Value) (n0_0 n1_0 : Obj) (uu : Nat) (p : Pos), okR (r_p61y w N t t1 t2 u0_0 u0_2 u0_4 u0_6 u0_8 u1_3 ur1 ur0 ub1 ub0 v0_0 v0_2 v0_3 v0_4 v2_32 n0_0 n1_0 uu p)) ∧
  (∀ (w : World) (N t t1 t2 u0_0 u0_2 u0_4 u0_6 u0_8 u1_3 ur1 ur0 ub1 ub0 : Nat) (v0_0 v0_2 v0_3 v0_4 v2_32 : Value) (n0_0 n1_0 : Obj) (uu : Nat) (p : Pos), okR (r_p61n w N t t1 t2 u0_0 u0_2 u0_4 u0_6 u0_8 u1_3 ur1 ur0 ub1 ub0 v0_0 v0_2 v0_3 v0_4 v2_32 n0_0 n1_0 uu p)) ∧
  (∀ (w : World) (N t u0_0 u0_2 u0_4 u0_6 u0_8 u0_10 u0_12 u0_13 u0_14 u2_1 : Nat) (v0_0 v0_2 v0_3 v0_4 v0_5 v0_7 v1_32 : Value) (uu : Nat) (p : Pos), okR (r_p8y w N t u0_0 u0_2 u0_4 u0_6 u0_8 u0_10 u0_12 u0_13 u0_14 u2_1 v0_0 v0_2 v0_3 v0_4 v0_5 v0_7 v1_32 uu p)) ∧
  (∀ (w : World) (N t u0_0 u0_2 u0_4 u0_6 u0_8 u0_10 u0_12 u0_13 u0_14 : Nat) (v0_0 v0_1 v0_2 v0_3 v0_4 v0_5 v0_7 : Value) (uu : Nat) (p : Pos), okR (r_p8n w N t u0_0 u0_2 u0_4 u0_6 u0_8 u0_10 u0_12 u0_13 u0_14 v0_0 v0_1 v0_2 v0_3 v0_4 v0_5 v0_7 uu p)) ∧
  (∀ (w : World) (N t t1 t2 u0_0 u0_2 u0_4 u0_6 u0_8 u0_10 u0_12 u0_14 u1_3 ur0 ur1 ub1 ub0 : Nat) (v0_0 v0_2 v0_3 v0_4 v0_6 v0_7 v2_32 v3_16 v4_1 v4_2 : Value) (n0_0 n1_0 : Obj) (uu : Nat) (p : Pos), okR (r_p900 w N t t1 t2 u0_0 u0_2 u0_4 u0_6 u0_8 u0_10 u0_12 u0_14 u1_3 ur0 ur1 ub1 ub0 v0_0 v0_2 v0_3 v0_4 v0_6 v0_7 v2_32 v3_16 v4_1 v4_2 n0_0 n1_0 uu p)) ∧
  (∀ (w : World) (N t t1 t2 u0_0 u0_2 u0_4 u0_6 u0_8 u0_10 u0_12 u0_14 u1_3 ur0 ur1 ub1 ub0 : Nat) (v0_0 v0_2 v0_3 v0_4 v0_6 v0_7 v2_32 v3_16 v4_1 v4_2 : Value) (n0_0 n1_0 : Obj) (uu : Nat) (p : Pos), okR (r_p901 w N t t1 t2 u0_0 u0_2 u0_4 u0_6 u0_8 u0_10 u0_12 u0_14 u1_3 ur0 ur1 ub1 ub0 v0_0 v0_2 v0_3 v0_4 v0_6 v0_7 v2_32 v3_16 v4_1 v4_2 n0_0 n1_0 uu p)) ∧
  (∀ (w : World) (N t t1 t2 u0_0 u0_2 u0_4 u0_6 u0_8 u0_10 u0_12 u0_14 u1_3 ur0 ur1 ub1 ub0 : Nat) (v0_0 v0_2 v0_3 v0_4 v0_6 v0_7 v2_32 v3_16 v4_1 v4_2 : Value) (n0_0 n1_0 : Obj) (uu : Nat) (p : Pos), okR (r_p902 w N t t1 t2 u0_0 u0_2 u0_4 u0_6 u0_8 u0_10 u0_12 u0_14 u1_3 ur0 ur1 ub1 ub0 v0_0 v0_2 v0_3 v0_4 v0_6 v0_7 v2_32 v3_16 v4_1 v4_2 n0_0 n1_0 uu p)) ∧
  (∀ (w : World) (N t t1 t2 u0_0 u0_2 u0_4 u0_6 u0_8 u0_10 u0_12 u0_14 u1_3 ur0 ur1 ub1 ub0 : Nat) (v0_0 v0_2 v0_3 v0_4 v0_6 v0_7 v2_32 v3_16 v4_1 v4_2 : Value) (n0_0 n1_0 : Obj) (uu : Nat) (p : Pos), okR (r_p910 w N t t1 t2 u0_0 u0_2 u0_4 u0_6 u0_8 u0_10 u0_12 u0_14 u1_3 ur0 ur1 ub1 ub0 v0_0 v0_2 v0_3 v0_4 v0_6 v0_7 v2_32 v3_16 v4_1 v4_2 n0_0 n1_0 uu p)) ∧
  (∀ (w : World) (N t t1 t2 u0_0 u0_2 u0_4 u0_6 u0_8 u0_10 u0_12 u0_14 u1_3 ur0 ur1 ub1 ub0 : Nat) (v0_0 v0_2 v0_3 v0_4 v0_6 v0_7 v2_32 v3_16 v4_1 v4_2 : Value) (n0_0 n1_0 : Obj) (uu : Nat) (p : Pos), okR (r_p911 w N t t1 t2 u0_0 u0_2 u0_4 u0_6 u0_8 u0_10 u0_12 u0_14 u1_3 ur0 ur1 ub1 ub0 v0_0 v0_2 v0_3 v0_4 v0_6 v0_7 v2_32 v3_16 v4_1 v4_2 n0_0 n1_0 uu p)) ∧
  (∀ (w : World) (N t t1 t2 u0_0 u0_2 u0_4 u0_6 u0_8 u0_10 u0_12 u0_14 u1_3 ur0 ur1 ub1 ub0 : Nat) (v0_0 v0_2 v0_3 v0_4 v0_6 v0_7 v2_32 v3_16 v4_1 v4_2 : Value) (n0_0 n1_0 : Obj) (uu : Nat) (p : Pos), okR (r_p912 w N t t1 t2 u0_0 u0_2 u0_4 u0_6 u0_8 u0_10 u0_12 u0_14 u1_3 ur0 ur1 ub1 ub0 v0_0 v0_2 v0_3 v0_4 v0_6 v0_7 v2_32 v3_16 v4_1 v4_2 n0_0 n1_0 uu p)) :=
  ⟨fun _ _ _ _ _ _ _ _ _ _ _ _ _ _ _ _ _ _ _ _ => by kernel_rfl,
  fun _ _ _ _ _ _ _ _ _ _ => by kernel_rfl,
  fun _ _ _ _ _ _ _ _ _ _ => by kernel_rfl,
  fun _ _ _ _ _ _ _ _ _ _ _ _ _ _ _ _ _ _ _ _ _ _ _ _ _ => by kernel_rfl,
  fun _ _ _ _ _ _ _ _ _ _ _ _ _ _ _ _ _ _ _ _ _ _ _ _ _ => by kernel_rfl,
  fun _ _ _ _ _ _ _ _ _ _ _ _ _ _ _ _ _ _ _ _ _ _ _ _ => by kernel_rfl,
  fun _ _ _ _ _ _ _ _ _ _ _ _ _ _ _ _ _ _ _ _ _ _ _ _ => by kernel_rfl,
  fun _ _ _ _ _ _ _ _ _ _ _ _ _ _ _ _ _ _ _ _ _ _ _ _ => by kernel_rfl,
  fun _ _ _ _ _ _ _ _ _ _ _ _ _ _ _ _ _ _ _ _ _ _ _ _ => by kernel_rfl,
  fun _ _ _ _ _ _ _ _ _ _ _ _ _ _ _ _ _ _ _ _ _ _ => by kernel_rfl,
  fun _ _ _ _ _ _ _ _ _ _ _ _ _ _ _ _ _ _ _ _ _ => by kernel_rfl,
  fun _ _ _ _ _ _ _ _ _ _ _ _ _ _ _ _ _ _ _ _ _ _ _ _ _ _ _ _ _ _ _ _ => by kernel_rfl,
  fun _ _ _ _ _ _ _ _ _ _ _ _ _ _ _ _ _ _ _ _ _ _ _ _ _ _ _ _ _ _ _ _ => by kernel_rfl,
  fun _ _ _ _ _ _ _ _ _ _ _ _ _ _ _ _ _ _ _ _ _ _ _ _ _ _ _ _ _ _ _ _ => by kernel_rfl,
  fun _ _ _ _ _ _ _ _ _ _ _ _ _ _ _ _ _ _ _ _ _ _ _ _ _ _ _ _ _ _ _ _ => by kernel_rfl,
  fun _ _ _ _ _ _ _ _ _ _ _ _ _ _ _ _ _ _ _ _ _ _ _ _ _ _ _ _ _ _ _ _ => by kernel_rfl,
  fun _ _ _ _ _ _ _ _ _ _ _ _ _ _ _ _ _ _ _ _ _ _ _ _ _ _ _ _ _ _ _ _ => by kernel_rfl⟩
theorem p5y {w : World} {s : Shared} {p : Pos} {N t t1 u0_0 u0_2 u0_4 u0_6 u0_8 u1_3 ur0 ub0 : Nat} {v0_0 v0_2 v0_3 v0_4 v2_32 : Value} {n0_0 : Obj} {uu : Nat} (hN : s.heap.objs.size = (N + 1090)) (ht : s.toks = t + 1837) (hg : s.gens = #[]) (hk : AKT s.heap (kt2 w.params uu)) (h0 : Hs s 1095 (loc5 w.params (tk u0_0) v0_0 (tk u0_2) (.ref 1107) (tk u0_4) v0_2 (tk u0_6) v0_3 (tk u0_8) v0_4)) (h1 : Hs s 1100 (box 3 u1_3)) (h2 : Hs s 1106 (sh1106 w.params uu v2_32)) (h3 : Hs s 1305 (ls #[] 0)) (hs : segOK t [(1, t1)]) {q0 : List (Addr × Obj)} {w0 : Nat → List Obj} (c0 : CallOK [lawCode] w (kt2 w.params uu) (.call (.ref 1083) ⟨[(.ref 1100), (iv 3 (tk (t + 0)))], []⟩) (tk (t + 1)) (tk t1) [(1100, (box 3 u1_3))] q0 (iv 2 (tk ur0)) [(1100, (box 4 ub0))] w0) (e0 : w0 ((N + 1090) + 0) = [n0_0]) (g0 : ∀ x ∈ q0, s.heap.get? x.1 = some x.2 ∧ x.1 ∉ [1095, 1100, 1106, 1305]) :
  wp (model PP w) Γf (execs (lawSl 5 1) lawEnv) (fun g _ s' => g = .next ∧ After s s' [1095, 1100, 1106, 1305] (N + 1090) 2 (tk (t1 + 3)) ∧ Hs s' 1095 (loc5 w.params (tk u0_0) v0_0 (tk u0_2) (.ref 1107) (tk u0_4) v0_2 (tk u0_6) v0_3 (tk u0_8) v0_4) ∧ Hs s' 1100 (box 4 ub0) ∧ Hs s' 1106 (sh1106 w.params uu v2_32) ∧ Hs s' 1305 (ls #[(.ref ((N + 1090) + 1))] 1)) (fun _ _ _ => False) p s := by
  have hkb := kb_of w.params uu (l := [1095, 1100, 1106, 1305]) (by decide)
  exact Sem.wp_mono _ _ _ (fun g _ s' h => ⟨h.1, h.2.1, h.2.2 _ m0, h.2.2 _ m1, h.2.2 _ m2, h.2.2 _ m3⟩) (fun _ _ _ h => h) _ _ (tri (cs_R5.1 w N t t1 u0_0 u0_2 u0_4 u0_6 u0_8 u1_3 ur0 ub0 v0_0 v0_2 v0_3 v0_4 v2_32 n0_0 uu p) (by kernel_rfl) hkb (by decide) hN ht hg hk (mc h0 <| mc h1 <| mc h2 <| mc h3 <| mn) hs (fa_cons (fun RX => spOK_of rfl rfl (sp_base hkb hk) rfl rfl c0 e0 rfl rfl rfl rfl (sp_keep g0)) <| fa_nil))
theorem p5n0 {w : World} {s : Shared} {p : Pos} {N t t1 u0_3 ur0 ub0 : Nat} {n0_0 : Obj} {uu : Nat} (hN : s.heap.objs.size = (N + 1090)) (ht : s.toks = t + 1837) (hg : s.gens = #[]) (hk : AKT s.heap (kt2 w.params uu)) (h0 : Hs s 1100 (box 3 u0_3)) (hs : segOK t [(1, t1)]) {q0 : List (Addr × Obj)} {w0 : Nat → List Obj} (c0 : CallOK [lawCode] w (kt2 w.params uu) (.call (.ref 1083) ⟨[(.ref 1100), (iv 3 (tk (t + 0)))], []⟩) (tk (t + 1)) (tk t1) [(1100, (box 3 u0_3))] q0 (iv 0 (tk ur0)) [(1100, (box 4 ub0))] w0) (e0 : w0 ((N + 1090) + 0) = [n0_0]) (g0 : ∀ x ∈ q0, s.heap.get? x.1 = some x.2 ∧ x.1 ∉ [1100]) :
  wp (model PP w) Γf (execs (lawSl 5 1) lawEnv) (fun g _ s' => g = .next ∧ After s s' [1100] (N + 1090) 1 (tk (t1 + 1)) ∧ Hs s' 1100 (box 4 ub0)) (fun _ _ _ => False) p s := by
  have hkb := kb_of w.params uu (l := [1100]) (by decide)
  exact Sem.wp_mono _ _ _ (fun g _ s' h => ⟨h.1, h.2.1, h.2.2 _ m0⟩) (fun _ _ _ h => h) _ _ (tri (cs_R5.2.1 w N t t1 u0_3 ur0 ub0 n0_0 uu p) (by kernel_rfl) hkb (by decide) hN ht hg hk (mc h0 <| mn) hs (fa_cons (fun RX => spOK_of rfl rfl (sp_base hkb hk) rfl rfl c0 e0 rfl rfl rfl rfl (sp_keep g0)) <| fa_nil))
theorem p5n1 {w : World} {s : Shared} {p : Pos} {N t t1 u0_3 ur0 ub0 : Nat} {n0_0 : Obj} {uu : Nat} (hN : s.heap.objs.size = (N + 1090)) (ht : s.toks = t + 1837) (hg : s.gens = #[]) (hk : AKT s.heap (kt2 w.params uu)) (h0 : Hs s 1100 (box 3 u0_3)) (hs : segOK t [(1, t1)]) {q0 : List (Addr × Obj)} {w0 : Nat → List Obj} (c0 : CallOK [lawCode] w (kt2 w.params uu) (.call (.ref 1083) ⟨[(.ref 1100), (iv 3 (tk (t + 0)))], []⟩) (tk (t + 1)) (tk t1) [(1100, (box 3 u0_3))] q0 (iv 1 (tk ur0)) [(1100, (box 4 ub0))] w0) (e0 : w0 ((N + 1090) + 0) = [n0_0]) (g0 : ∀ x ∈ q0, s.heap.get? x.1 = some x.2 ∧ x.1 ∉ [1100]) :
  wp (model PP w) Γf (execs (lawSl 5 1) lawEnv) (fun g _ s' => g = .next ∧ After s s' [1100] (N + 1090) 1 (tk (t1 + 1)) ∧ Hs s' 1100 (box 4 ub0)) (fun _ _ _ => False) p s := by
  have hkb := kb_of w.params uu (l := [1100]) (by decide)
  exact Sem.wp_mono _ _ _ (fun g _ s' h => ⟨h.1, h.2.1, h.2.2 _ m0⟩) (fun _ _ _ h => h) _ _ (tri (cs_R5.2.2.1 w N t t1 u0_3 ur0 ub0 n0_0 uu p) (by kernel_rfl) hkb (by decide) hN ht hg hk (mc h0 <| mn) hs (fa_cons (fun RX => spOK_of rfl rfl (sp_base hkb hk) rfl rfl c0 e0 rfl rfl rfl rfl (sp_keep g0)) <| fa_nil))
theorem p62y {w : World} {s : Shared} {p : Pos} {N t t1 t2 u0_0 u0_2 u0_4 u0_6 u0_8 u1_3 u3_3 u3_25 ur1 ur0 ub1 ub0 : Nat} {v0_0 v0_2 v0_4 v2_32 : Value} {n0_0 n1_0 : Obj} {uu : Nat} (hN : s.heap.objs.size = (N + 1090)) (ht : s.toks = t + 1837) (hg : s.gens = #[]) (hk : AKT s.heap (kt2 w.params uu)) (h0 : Hs s 1095 (loc5 w.params (tk u0_0) v0_0 (tk u0_2) (.ref 1107) (tk u0_4) v0_2 (tk u0_6) (.ref 1203) (tk u0_8) v0_4)) (h1 : Hs s 1100 (box 4 u1_3)) (h2 : Hs s 1106 (sh1106 w.params uu v2_32)) (h3 : Hs s 1202 (sh1202 w.params uu (iv 0 (tk u3_3)) .none (.ref 1207) .none .none .none (iv 0 (tk u3_25)) (.bool false) (.bool false))) (hs : segOK t [(1, t1), (2, t2)]) {q0 : List (Addr × Obj)} {w0 : Nat → List Obj} (c0 : CallOK [lawCode] w (kt2 w.params uu) (.call (.ref 1083) ⟨[(.ref 1100), (iv 3 (tk (t + 0)))], []⟩) (tk (t + 1)) (tk t1) [(1100, (box 4 u1_3))] q0 (iv 2 (tk ur0)) [(1100, (box 5 ub0))] w0) (e0 : w0 ((N + 1090) + 0) = [n0_0]) (g0 : ∀ x ∈ q0, s.heap.get? x.1 = some x.2 ∧ x.1 ∉ [1095, 1100, 1106, 1202]) {q1 : List (Addr × Obj)} {w1 : Nat → List Obj} (c1 : CallOK [lawCode] w (kt2 w.params uu) (.call (.ref 1083) ⟨[(.ref 1100), (iv 2 (tk (t1 + 1)))], []⟩) (tk (t1 + 2)) (tk t2) [(1100, (box 5 ub0))] q1 (iv 1 (tk ur1)) [(1100, (box 6 ub1))] w1) (e1 : w1 ((N + 1090) + 1) = [n1_0]) (g1 : ∀ x ∈ q1, s.heap.get? x.1 = some x.2 ∧ x.1 ∉ [1095, 1100, 1106, 1202]) :
  wp (model PP w) Γf (execs (lawSl 6 2) lawEnv) (fun g _ s' => g = .next ∧ After s s' [1095, 1100, 1106, 1202] (N + 1090) 25 (tk (t2 + 52)) ∧ Hs s' 1095 (loc8 w.params (tk u0_0) v0_0 (tk u0_2) (.ref 1107) (tk u0_4) v0_2 (tk u0_6) (.ref 1203) (tk u0_8) v0_4 (tk (t2 + 3)) (.ref 1187) (tk (t2 + 4)) (iv 1 (tk ur1)) (tk (t2 + 5)) (.bool true)) ∧ Hs s' 1100 (box 6 ub1) ∧ Hs s' 1106 (sh1106 w.params uu v2_32) ∧ Hs s' 1202 (sh1202 w.params uu (iv 0 (tk u3_3)) .none (.ref ((N + 1090) + 19)) (iv 4 (tk (t2 + 6))) (iv 1000 (tk (t2 + 7))) (iv 1000 (tk (t2 + 7))) (iv 1 (tk (t2 + 42))) (.bool false) (.bool true))) (fun _ _ _ => False) p s := by
  have hkb := kb_of w.params uu (l := [1095, 1100, 1106, 1202]) (by decide)
  exact Sem.wp_mono _ _ _ (fun g _ s' h => ⟨h.1, h.2.1, h.2.2 _ m0, h.2.2 _ m1, h.2.2 _ m2, h.2.2 _ m3⟩) (fun _ _ _ h => h) _ _ (tri (cs_R5.2.2.2.1 w N t t1 t2 u0_0 u0_2 u0_4 u0_6 u0_8 u1_3 u3_3 u3_25 ur1 ur0 ub1 ub0 v0_0 v0_2 v0_4 v2_32 n0_0 n1_0 uu p) (by kernel_rfl) hkb (by decide) hN ht hg hk (mc h0 <| mc h1 <| mc h2 <| mc h3 <| mn) hs (fa_cons (fun RX => spOK_of rfl rfl (sp_base hkb hk) rfl rfl c0 e0 rfl rfl rfl rfl (sp_keep g0)) <| fa_cons (fun RX => spOK_of rfl rfl (sp_base hkb hk) rfl rfl c1 e1 rfl rfl rfl rfl (sp_keep g1)) <| fa_nil))
theorem p62n {w : World} {s : Shared} {p : Pos} {N t t1 t2 u0_0 u0_2 u0_4 u0_6 u0_8 u1_3 u3_3 u3_25 ur1 ur0 ub1 ub0 : Nat} {v0_0 v0_2 v0_4 v2_32 : Value} {n0_0 n1_0 : Obj} {uu : Nat} (hN : s.heap.objs.size = (N + 1090)) (ht : s.toks = t + 1837) (hg : s.gens = #[]) (hk : AKT s.heap (kt2 w.params uu)) (h0 : Hs s 1095 (loc5 w.params (tk u0_0) v0_0 (tk u0_2) (.ref 1107) (tk u0_4) v0_2 (tk u0_6) (.ref 1203) (tk u0_8) v0_4)) (h1 : Hs s 1100 (box 4 u1_3)) (h2 : Hs s 1106 (sh1106 w.params uu v2_32)) (h3 : Hs s 1202 (sh1202 w.params uu (iv 0 (tk u3_3)) .none (.ref 1207) .none .none .none (iv 0 (tk u3_25)) (.bool false) (.bool false))) (hs : segOK t [(1, t1), (2, t2)]) {q0 : List (Addr × Obj)} {w0 : Nat → List Obj} (c0 : CallOK [lawCode] w (kt2 w.params uu) (.call (.ref 1083) ⟨[(.ref 1100), (iv 3 (tk (t + 0)))], []⟩) (tk (t + 1)) (tk t1) [(1100, (box 4 u1_3))] q0 (iv 2 (tk ur0)) [(1100, (box 5 ub0))] w0) (e0 : w0 ((N + 1090) + 0) = [n0_0]) (g0 : ∀ x ∈ q0, s.heap.get? x.1 = some x.2 ∧ x.1 ∉ [1095, 1100, 1106, 1202]) {q1 : List (Addr × Obj)} {w1 : Nat → List Obj} (c1 : CallOK [lawCode] w (kt2 w.params uu) (.call (.ref 1083) ⟨[(.ref 1100), (iv 2 (tk (t1 + 1)))], []⟩) (tk (t1 + 2)) (tk t2) [(1100, (box 5 ub0))] q1 (iv 0 (tk ur1)) [(1100, (box 6 ub1))] w1) (e1 : w1 ((N + 1090) + 1) = [n1_0]) (g1 : ∀ x ∈ q1, s.heap.get? x.1 = some x.2 ∧ x.1 ∉ [1095, 1100, 1106, 1202]) :
  wp (model PP w) Γf (execs (lawSl 6 2) lawEnv) (fun g _ s' => g = .next ∧ After s s' [1095, 1100, 1106, 1202] (N + 1090) 25 (tk (t2 + 52)) ∧ Hs s' 1095 (loc8 w.params (tk u0_0) v0_0 (tk u0_2) (.ref 1107) (tk u0_4) v0_2 (tk u0_6) (.ref 1203) (tk u0_8) v0_4 (tk (t2 + 3)) (.ref 1187) (tk (t2 + 4)) (iv 0 (tk ur1)) (tk (t2 + 5)) (.bool true)) ∧ Hs s' 1100 (box 6 ub1) ∧ Hs s' 1106 (sh1106 w.params uu v2_32) ∧ Hs s' 1202 (sh1202 w.params uu (iv 0 (tk u3_3)) .none (.ref ((N + 1090) + 19)) (iv 4 (tk (t2 + 6))) (iv 1000 (tk (t2 + 7))) (iv 1000 (tk (t2 + 7))) (iv 1 (tk (t2 + 42))) (.bool false) (.bool true))) (fun _ _ _ => False) p s := by
  have hkb := kb_of w.params uu (l := [1095, 1100, 1106, 1202]) (by decide)
  exact Sem.wp_mono _ _ _ (fun g _ s' h => ⟨h.1, h.2.1, h.2.2 _ m0, h.2.2 _ m1, h.2.2 _ m2, h.2.2 _ m3⟩) (fun _ _ _ h => h) _ _ (tri (cs_R5.2.2.2.2.1 w N t t1 t2 u0_0 u0_2 u0_4 u0_6 u0_8 u1_3 u3_3 u3_25 ur1 ur0 ub1 ub0 v0_0 v0_2 v0_4 v2_32 n0_0 n1_0 uu p) (by kernel_rfl) hkb (by decide) hN ht hg hk (mc h0 <| mc h1 <| mc h2 <| mc h3 <| mn) hs (fa_cons (fun RX => spOK_of rfl rfl (sp_base hkb hk) rfl rfl c0 e0 rfl rfl rfl rfl (sp_keep g0)) <| fa_cons (fun RX => spOK_of rfl rfl (sp_base hkb hk) rfl rfl c1 e1 rfl rfl rfl rfl (sp_keep g1)) <| fa_nil))
theorem p60y {w : World} {s : Shared} {p : Pos} {N t t1 t2 u0_0 u0_2 u0_4 u0_6 u0_8 u1_3 ur1 ur0 ub1 ub0 : Nat} {v0_0 v0_2 v0_3 v0_4 v2_32 : Value} {n0_0 n1_0 : Obj} {uu : Nat} (hN : s.heap.objs.size = (N + 1090)) (ht : s.toks = t + 1837) (hg : s.gens = #[]) (hk : AKT s.heap (kt2 w.params uu)) (h0 : Hs s 1095 (loc5 w.params (tk u0_0) v0_0 (tk u0_2) (.ref 1107) (tk u0_4) v0_2 (tk u0_6) v0_3 (tk u0_8) v0_4)) (h1 : Hs s 1100 (box 4 u1_3)) (h2 : Hs s 1106 (sh1106 w.params uu v2_32)) (hs : segOK t [(1, t1), (2, t2)]) {q0 : List (Addr × Obj)} {w0 : Nat → List Obj} (c0 : CallOK [lawCode] w (kt2 w.params uu) (.call (.ref 1083) ⟨[(.ref 1100), (iv 3 (tk (t + 0)))], []⟩) (tk (t + 1)) (tk t1) [(1100, (box 4 u1_3))] q0 (iv 0 (tk ur0)) [(1100, (box 5 ub0))] w0) (e0 : w0 ((N + 1090) + 0) = [n0_0]) (g0 : ∀ x ∈ q0, s.heap.get? x.1 = some x.2 ∧ x.1 ∉ [1095, 1100, 1106]) {q1 : List (Addr × Obj)} {w1 : Nat → List Obj} (c1 : CallOK [lawCode] w (kt2 w.params uu) (.call (.ref 1083) ⟨[(.ref 1100), (iv 2 (tk (t1 + 1)))], []⟩) (tk (t1 + 2)) (tk t2) [(1100, (box 5 ub0))] q1 (iv 1 (tk ur1)) [(1100, (box 6 ub1))] w1) (e1 : w1 ((N + 1090) + 1) = [n1_0]) (g1 : ∀ x ∈ q1, s.heap.get? x.1 = some x.2 ∧ x.1 ∉ [1095, 1100, 1106]) :
  wp (model PP w) Γf (execs (lawSl 6 2) lawEnv) (fun g _ s' => g = .next ∧ After s s' [1095, 1100, 1106] (N + 1090) 6 (tk (t2 + 6)) ∧ Hs s' 1095 (loc8 w.params (tk u0_0) v0_0 (tk u0_2) (.ref 1107) (tk u0_4) v0_2 (tk u0_6) v0_3 (tk u0_8) v0_4 (tk (t2 + 3)) (.ref 1187) (tk (t2 + 4)) (iv 1 (tk ur1)) (tk (t2 + 5)) (.bool false)) ∧ Hs s' 1100 (box 6 ub1) ∧ Hs s' 1106 (sh1106 w.params uu v2_32)) (fun _ _ _ => False) p s := by
  have hkb := kb_of w.params uu (l := [1095, 1100, 1106]) (by decide)
  exact Sem.wp_mono _ _ _ (fun g _ s' h => ⟨h.1, h.2.1, h.2.2 _ m0, h.2.2 _ m1, h.2.2 _ m2⟩) (fun _ _ _ h => h) _ _ (tri (cs_R5.2.2.2.2.2.1 w N t t1 t2 u0_0 u0_2 u0_4 u0_6 u0_8 u1_3 ur1 ur0 ub1 ub0 v0_0 v0_2 v0_3 v0_4 v2_32 n0_0 n1_0 uu p) (by kernel_rfl) hkb (by decide) hN ht hg hk (mc h0 <| mc h1 <| mc h2 <| mn) hs (fa_cons (fun RX => spOK_of rfl rfl (sp_base hkb hk) rfl rfl c0 e0 rfl rfl rfl rfl (sp_keep g0)) <| fa_cons (fun RX => spOK_of rfl rfl (sp_base hkb hk) rfl rfl c1 e1 rfl rfl rfl rfl (sp_keep g1)) <| fa_nil))
theorem p60n {w : World} {s : Shared} {p : Pos} {N t t1 t2 u0_0 u0_2 u0_4 u0_6 u0_8 u1_3 ur1 ur0 ub1 ub0 : Nat} {v0_0 v0_2 v0_3 v0_4 v2_32 : Value} {n0_0 n1_0 : Obj} {uu : Nat} (hN : s.heap.objs.size = (N + 1090)) (ht : s.toks = t + 1837) (hg : s.gens = #[]) (hk : AKT s.heap (kt2 w.params uu)) (h0 : Hs s 1095 (loc5 w.params (tk u0_0) v0_0 (tk u0_2) (.ref 1107) (tk u0_4) v0_2 (tk u0_6) v0_3 (tk u0_8) v0_4)) (h1 : Hs s 1100 (box 4 u1_3)) (h2 : Hs s 1106 (sh1106 w.params uu v2_32)) (hs : segOK t [(1, t1), (2, t2)]) {q0 : List (Addr × Obj)} {w0 : Nat → List Obj} (c0 : CallOK [lawCode] w (kt2 w.params uu) (.call (.ref 1083) ⟨[(.ref 1100), (iv 3 (tk (t + 0)))], []⟩) (tk (t + 1)) (tk t1) [(1100, (box 4 u1_3))] q0 (iv 0 (tk ur0)) [(1100, (box 5 ub0))] w0) (e0 : w0 ((N + 1090) + 0) = [n0_0]) (g0 : ∀ x ∈ q0, s.heap.get? x.1 = some x.2 ∧ x.1 ∉ [1095, 1100, 1106]) {q1 : List (Addr × Obj)} {w1 : Nat → List Obj} (c1 : CallOK [lawCode] w (kt2 w.params uu) (.call (.ref 1083) ⟨[(.ref 1100), (iv 2 (tk (t1 + 1)))], []⟩) (tk (t1 + 2)) (tk t2) [(1100, (box 5 ub0))] q1 (iv 0 (tk ur1)) [(1100, (box 6 ub1))] w1) (e1 : w1 ((N + 1090) + 1) = [n1_0]) (g1 : ∀ x ∈ q1, s.heap.get? x.1 = some x.2 ∧ x.1 ∉ [1095, 1100, 1106]) :
  wp (model PP w) Γf (execs (lawSl 6 2) lawEnv) (fun g _ s' => g = .next ∧ After s s' [1095, 1100, 1106] (N + 1090) 6 (tk (t2 + 6)) ∧ Hs s' 1095 (loc8 w.params (tk u0_0) v0_0 (tk u0_2) (.ref 1107) (tk u0_4) v0_2 (tk u0_6) v0_3 (tk u0_8) v0_4 (tk (t2 + 3)) (.ref 1187) (tk (t2 + 4)) (iv 0 (tk ur1)) (tk (t2 + 5)) (.bool false)) ∧ Hs s' 1100 (box 6 ub1) ∧ Hs s' 1106 (sh1106 w.params uu v2_32)) (fun _ _ _ => False) p s := by
  have hkb := kb_of w.params uu (l := [1095, 1100, 1106]) (by decide)
  exact Sem.wp_mono _ _ _ (fun g _ s' h => ⟨h.1, h.2.1, h.2.2 _ m0, h.2.2 _ m1, h.2.2 _ m2⟩) (fun _ _ _ h => h) _ _ (tri (cs_R5.2.2.2.2.2.2.1 w N t t1 t2 u0_0 u0_2 u0_4 u0_6 u0_8 u1_3 ur1 ur0 ub1 ub0 v0_0 v0_2 v0_3 v0_4 v2_32 n0_0 n1_0 uu p) (by kernel_rfl) hkb (by decide) hN ht hg hk (mc h0 <| mc h1 <| mc h2 <| mn) hs (fa_cons (fun RX => spOK_of rfl rfl (sp_base hkb hk) rfl rfl c0 e0 rfl rfl rfl rfl (sp_keep g0)) <| fa_cons (fun RX => spOK_of rfl rfl (sp_base hkb hk) rfl rfl c1 e1 rfl rfl rfl rfl (sp_keep g1)) <| fa_nil))
theorem p61y {w : World} {s : Shared} {p : Pos} {N t t1 t2 u0_0 u0_2 u0_4 u0_6 u0_8 u1_3 ur1 ur0 ub1 ub0 : Nat} {v0_0 v0_2 v0_3 v0_4 v2_32 : Value} {n0_0 n1_0 : Obj} {uu : Nat} (hN : s.heap.objs.size = (N + 1090)) (ht : s.toks = t + 1837) (hg : s.gens = #[]) (hk : AKT s.heap (kt2 w.params uu)) (h0 : Hs s 1095 (loc5 w.params (tk u0_0) v0_0 (tk u0_2) (.ref 1107) (tk u0_4) v0_2 (tk u0_6) v0_3 (tk u0_8) v0_4)) (h1 : Hs s 1100 (box 4 u1_3)) (h2 : Hs s 1106 (sh1106 w.params uu v2_32)) (hs : segOK t [(1, t1), (2, t2)]) {q0 : List (Addr × Obj)} {w0 : Nat → List Obj} (c0 : CallOK [lawCode] w (kt2 w.params uu) (.call (.ref 1083) ⟨[(.ref 1100), (iv 3 (tk (t + 0)))], []⟩) (tk (t + 1)) (tk t1) [(1100, (box 4 u1_3))] q0 (iv 1 (tk ur0)) [(1100, (box 5 ub0))] w0) (e0 : w0 ((N + 1090) + 0) = [n0_0]) (g0 : ∀ x ∈ q0, s.heap.get? x.1 = some x.2 ∧ x.1 ∉ [1095, 1100, 1106]) {q1 : List (Addr × Obj)} {w1 : Nat → List Obj} (c1 : CallOK [lawCode] w (kt2 w.params uu) (.call (.ref 1083) ⟨[(.ref 1100), (iv 2 (tk (t1 + 1)))], []⟩) (tk (t1 + 2)) (tk t2) [(1100, (box 5 ub0))] q1 (iv 1 (tk ur1)) [(1100, (box 6 ub1))] w1) (e1 : w1 ((N + 1090) + 1) = [n1_0]) (g1 : ∀ x ∈ q1, s.heap.get? x.1 = some x.2 ∧ x.1 ∉ [1095, 1100, 1106]) :
  wp (model PP w) Γf (execs (lawSl 6 2) lawEnv) (fun g _ s' => g = .next ∧ After s s' [1095, 1100, 1106] (N + 1090) 6 (tk (t2 + 6)) ∧ Hs s' 1095 (loc8 w.params (tk u0_0) v0_0 (tk u0_2) (.ref 1107) (tk u0_4) v0_2 (tk u0_6) v0_3 (tk u0_8) v0_4 (tk (t2 + 3)) (.ref 1187) (tk (t2 + 4)) (iv 1 (tk ur1)) (tk (t2 + 5)) (.bool false)) ∧ Hs s' 1100 (box 6 ub1) ∧ Hs s' 1106 (sh1106 w.params uu v2_32)) (fun _ _ _ => False) p s := by
  have hkb := kb_of w.params uu (l := [1095, 1100, 1106]) (by decide)
  exact Sem.wp_mono _ _ _ (fun g _ s' h => ⟨h.1, h.2.1, h.2.2 _ m0, h.2.2 _ m1, h.2.2 _ m2⟩) (fun _ _ _ h => h) _ _ (tri (cs_R5.2.2.2.2.2.2.2.1 w N t t1 t2 u0_0 u0_2 u0_4 u0_6 u0_8 u1_3 ur1 ur0 ub1 ub0 v0_0 v0_2 v0_3 v0_4 v2_32 n0_0 n1_0 uu p) (by kernel_rfl) hkb (by decide) hN ht hg hk (mc h0 <| mc h1 <| mc h2 <| mn) hs (fa_cons (fun RX => spOK_of rfl rfl (sp_base hkb hk) rfl rfl c0 e0 rfl rfl rfl rfl (sp_keep g0)) <| fa_cons (fun RX => spOK_of rfl rfl (sp_base hkb hk) rfl rfl c1 e1 rfl rfl rfl rfl (sp_keep g1)) <| fa_nil))
theorem p61n {w : World} {s : Shared} {p : Pos} {N t t1 t2 u0_0 u0_2 u0_4 u0_6 u0_8 u1_3 ur1 ur0 ub1 ub0 : Nat} {v0_0 v0_2 v0_3 v0_4 v2_32 : Value} {n0_0 n1_0 : Obj} {uu : Nat} (hN : s.heap.objs.size = (N + 1090)) (ht : s.toks = t + 1837) (hg : s.gens = #[]) (hk : AKT s.heap (kt2 w.params uu)) (h0 : Hs s 1095 (loc5 w.params (tk u0_0) v0_0 (tk u0_2) (.ref 1107) (tk u0_4) v0_2 (tk u0_6) v0_3 (tk u0_8) v0_4)) (h1 : Hs s 1100 (box 4 u1_3)) (h2 : Hs s 1106 (sh1106 w.params uu v2_32)) (hs : segOK t [(1, t1), (2, t2)]) {q0 : List (Addr × Obj)} {w0 : Nat → List Obj} (c0 : CallOK [lawCode] w (kt2 w.params uu) (.call (.ref 1083) ⟨[(.ref 1100), (iv 3 (tk (t + 0)))], []⟩) (tk (t + 1)) (tk t1) [(1100, (box 4 u1_3))] q0 (iv 1 (tk ur0)) [(1100, (box 5 ub0))] w0) (e0 : w0 ((N + 1090) + 0) = [n0_0]) (g0 : ∀ x ∈ q0, s.heap.get? x.1 = some x.2 ∧ x.1 ∉ [1095, 1100, 1106]) {q1 : List (Addr × Obj)} {w1 : Nat → List Obj} (c1 : CallOK [lawCode] w (kt2 w.params uu) (.call (.ref 1083) ⟨[(.ref 1100), (iv 2 (tk (t1 + 1)))], []⟩) (tk (t1 + 2)) (tk t2) [(1100, (box 5 ub0))] q1 (iv 0 (tk ur1)) [(1100, (box 6 ub1))] w1) (e1 : w1 ((N + 1090) + 1) = [n1_0]) (g1 : ∀ x ∈ q1, s.heap.get? x.1 = some x.2 ∧ x.1 ∉ [1095, 1100, 1106]) :
  wp (model PP w) Γf (execs (lawSl 6 2) lawEnv) (fun g _ s' => g = .next ∧ After s s' [1095, 1100, 1106] (N + 1090) 6 (tk (t2 + 6)) ∧ Hs s' 1095 (loc8 w.params (tk u0_0) v0_0 (tk u0_2) (.ref 1107) (tk u0_4) v0_2 (tk u0_6) v0_3 (tk u0_8) v0_4 (tk (t2 + 3)) (.ref 1187) (tk (t2 + 4)) (iv 0 (tk ur1)) (tk (t2 + 5)) (.bool false)) ∧ Hs s' 1100 (box 6 ub1) ∧ Hs s' 1106 (sh1106 w.params uu v2_32)) (fun _ _ _ => False) p s := by
  have hkb := kb_of w.params uu (l := [1095, 1100, 1106]) (by decide)
  exact Sem.wp_mono _ _ _ (fun g _ s' h => ⟨h.1, h.2.1, h.2.2 _ m0, h.2.2 _ m1, h.2.2 _ m2⟩) (fun _ _ _ h => h) _ _ (tri (cs_R5.2.2.2.2.2.2.2.2.1 w N t t1 t2 u0_0 u0_2 u0_4 u0_6 u0_8 u1_3 ur1 ur0 ub1 ub0 v0_0 v0_2 v0_3 v0_4 v2_32 n0_0 n1_0 uu p) (by kernel_rfl) hkb (by decide) hN ht hg hk (mc h0 <| mc h1 <| mc h2 <| mn) hs (fa_cons (fun RX => spOK_of rfl rfl (sp_base hkb hk) rfl rfl c0 e0 rfl rfl rfl rfl (sp_keep g0)) <| fa_cons (fun RX => spOK_of rfl rfl (sp_base hkb hk) rfl rfl c1 e1 rfl rfl rfl rfl (sp_keep g1)) <| fa_nil))
theorem p8y {w : World} {s : Shared} {p : Pos} {N t u0_0 u0_2 u0_4 u0_6 u0_8 u0_10 u0_12 u0_13 u0_14 u2_1 : Nat} {v0_0 v0_2 v0_3 v0_4 v0_5 v0_7 v1_32 : Value} {uu : Nat} (hN : s.heap.objs.size = (N + 1090)) (ht : s.toks = t + 1837) (hg : s.gens = #[]) (hk : AKT s.heap (kt2 w.params uu)) (h0 : Hs s 1095 (loc8 w.params (tk u0_0) v0_0 (tk u0_2) (.ref 1107) (tk u0_4) v0_2 (tk u0_6) v0_3 (tk u0_8) v0_4 (tk u0_10) v0_5 (tk u0_12) (iv 1 (tk u0_13)) (tk u0_14) v0_7)) (h1 : Hs s 1106 (sh1106 w.params uu v1_32)) (h2 : Hs s 1221 (sh1221 w.params uu (.bytes #[] (tk u2_1)) (.ref 1224))) :
  wp (model PP w) Γf (execs (lawSl 8 1) lawEnv) (fun g _ s' => g = .next ∧ After s s' [1095, 1106, 1221] (N + 1090) 13 (tk (t + 27)) ∧ Hs s' 1095 (loc8 w.params (tk u0_0) v0_0 (tk u0_2) (.ref 1107) (tk u0_4) v0_2 (tk u0_6) v0_3 (tk u0_8) v0_4 (tk u0_10) v0_5 (tk u0_12) (iv 1 (tk u0_13)) (tk u0_14) v0_7) ∧ Hs s' 1106 (sh1106 w.params uu v1_32) ∧ Hs s' 1221 (sh1221 w.params uu (.bytes #[120] (tk (t + 4))) (.ref ((N + 1090) + 12))) ∧ Hs s' ((N + 1090) + 12) (ls #[(.ref ((N + 1090) + 10))] 0)) (fun _ _ _ => False) p s := by
  have hkb := kb_of w.params uu (l := [1095, 1106, 1221]) (by decide)
  exact Sem.wp_mono _ _ _ (fun g _ s' h => ⟨h.1, h.2.1, h.2.2 _ m0, h.2.2 _ m1, h.2.2 _ m2, h.2.2 _ m3⟩) (fun _ _ _ h => h) _ _ (tri (cs_R5.2.2.2.2.2.2.2.2.2.1 w N t u0_0 u0_2 u0_4 u0_6 u0_8 u0_10 u0_12 u0_13 u0_14 u2_1 v0_0 v0_2 v0_3 v0_4 v0_5 v0_7 v1_32 uu p) (by kernel_rfl) hkb (by decide) hN ht hg hk (mc h0 <| mc h1 <| mc h2 <| mn) trivial (fa_nil))
theorem p8n {w : World} {s : Shared} {p : Pos} {N t u0_0 u0_2 u0_4 u0_6 u0_8 u0_10 u0_12 u0_13 u0_14 : Nat} {v0_0 v0_1 v0_2 v0_3 v0_4 v0_5 v0_7 : Value} {uu : Nat} (hN : s.heap.objs.size = (N + 1090)) (ht : s.toks = t + 1837) (hg : s.gens = #[]) (hk : AKT s.heap (kt2 w.params uu)) (h0 : Hs s 1095 (loc8 w.params (tk u0_0) v0_0 (tk u0_2) v0_1 (tk u0_4) v0_2 (tk u0_6) v0_3 (tk u0_8) v0_4 (tk u0_10) v0_5 (tk u0_12) (iv 0 (tk u0_13)) (tk u0_14) v0_7)) :
  wp (model PP w) Γf (execs (lawSl 8 1) lawEnv) (fun g _ s' => g = .next ∧ After s s' [1095] (N + 1090) 0 (tk (t + 1)) ∧ Hs s' 1095 (loc8 w.params (tk u0_0) v0_0 (tk u0_2) v0_1 (tk u0_4) v0_2 (tk u0_6) v0_3 (tk u0_8) v0_4 (tk u0_10) v0_5 (tk u0_12) (iv 0 (tk u0_13)) (tk u0_14) v0_7)) (fun _ _ _ => False) p s := by
  have hkb := kb_of w.params uu (l := [1095]) (by decide)
  exact Sem.wp_mono _ _ _ (fun g _ s' h => ⟨h.1, h.2.1, h.2.2 _ m0⟩) (fun _ _ _ h => h) _ _ (tri (cs_R5.2.2.2.2.2.2.2.2.2.2.1 w N t u0_0 u0_2 u0_4 u0_6 u0_8 u0_10 u0_12 u0_13 u0_14 v0_0 v0_1 v0_2 v0_3 v0_4 v0_5 v0_7 uu p) (by kernel_rfl) hkb (by decide) hN ht hg hk (mc h0 <| mn) trivial (fa_nil))
theorem p900 {w : World} {s : Shared} {p : Pos} {N t t1 t2 u0_0 u0_2 u0_4 u0_6 u0_8 u0_10 u0_12 u0_14 u1_3 ur0 ur1 ub1 ub0 : Nat} {v0_0 v0_2 v0_3 v0_4 v0_6 v0_7 v2_32 v3_16 v4_1 v4_2 : Value} {n0_0 n1_0 : Obj} {uu : Nat} (hN : s.heap.objs.size = (N + 1090)) (ht : s.toks = t + 1837) (hg : s.gens = #[]) (hk : AKT s.heap (kt2 w.params uu)) (h0 : Hs s 1095 (loc8 w.params (tk u0_0) v0_0 (tk u0_2) (.ref 1107) (tk u0_4) v0_2 (tk u0_6) v0_3 (tk u0_8) v0_4 (tk u0_10) (.ref 1187) (tk u0_12) v0_6 (tk u0_14) v0_7)) (h1 : Hs s 1100 (box 6 u1_3)) (h2 : Hs s 1106 (sh1106 w.params uu v2_32)) (h3 : Hs s 1186 (sh1186 w.params uu v3_16)) (h4 : Hs s 1260 (sh1260 w.params uu v4_1 v4_2)) (hs : segOK t [(1, t1), (5, t2)]) {q0 : List (Addr × Obj)} {w0 : Nat → List Obj} (c0 : CallOK [lawCode] w (kt2 w.params uu) (.call (.ref 1083) ⟨[(.ref 1100), (iv 2 (tk (t + 0)))], []⟩) (tk (t + 1)) (tk t1) [(1100, (box 6 u1_3))] q0 (iv 0 (tk ur0)) [(1100, (box 7 ub0))] w0) (e0 : w0 ((N + 1090) + 0) = [n0_0]) (g0 : ∀ x ∈ q0, s.heap.get? x.1 = some x.2 ∧ x.1 ∉ [1095, 1100, 1106, 1186, 1260]) {q1 : List (Addr × Obj)} {w1 : Nat → List Obj} (c1 : CallOK [lawCode] w (kt2 w.params uu) (.call (.ref 1083) ⟨[(.ref 1100), (iv 3 (tk (t1 + 4)))], []⟩) (tk (t1 + 5)) (tk t2) [(1100, (box 7 ub0))] q1 (iv 0 (tk ur1)) [(1100, (box 8 ub1))] w1) (e1 : w1 ((N + 1090) + 2) = [n1_0]) (g1 : ∀ x ∈ q1, s.heap.get? x.1 = some x.2 ∧ x.1 ∉ [1095, 1100, 1106, 1186, 1260]) :
  wp (model PP w) Γf (execs (lawSl 9 1) lawEnv) (fun g _ s' => g = .next ∧ After s s' [1095, 1100, 1106, 1186, 1260] (N + 1090) 7 (tk (t2 + 5)) ∧ Hs s' 1095 (loc8 w.params (tk u0_0) v0_0 (tk u0_2) (.ref 1107) (tk u0_4) v0_2 (tk u0_6) v0_3 (tk u0_8) v0_4 (tk u0_10) (.ref 1187) (tk u0_12) v0_6 (tk u0_14) v0_7) ∧ Hs s' 1100 (box 8 ub1) ∧ Hs s' 1106 (sh1106 w.params uu v2_32) ∧ Hs s' 1186 (sh1186 w.params uu (.bool false)) ∧ Hs s' 1260 (sh1260 w.params uu (iv 0 (tk (t1 + 1))) v4_2)) (fun _ _ _ => False) p s := by
  have hkb := kb_of w.params uu (l := [1095, 1100, 1106, 1186, 1260]) (by decide)
  exact Sem.wp_mono _ _ _ (fun g _ s' h => ⟨h.1, h.2.1, h.2.2 _ m0, h.2.2 _ m1, h.2.2 _ m2, h.2.2 _ m3, h.2.2 _ m4⟩) (fun _ _ _ h => h) _ _ (tri (cs_R5.2.2.2.2.2.2.2.2.2.2.2.1 w N t t1 t2 u0_0 u0_2 u0_4 u0_6 u0_8 u0_10 u0_12 u0_14 u1_3 ur0 ur1 ub1 ub0 v0_0 v0_2 v0_3 v0_4 v0_6 v0_7 v2_32 v3_16 v4_1 v4_2 n0_0 n1_0 uu p) (by kernel_rfl) hkb (by decide) hN ht hg hk (mc h0 <| mc h1 <| mc h2 <| mc h3 <| mc h4 <| mn) hs (fa_cons (fun RX => spOK_of rfl rfl (sp_base hkb hk) rfl rfl c0 e0 rfl rfl rfl rfl (sp_keep g0)) <| fa_cons (fun RX => spOK_of rfl rfl (sp_base hkb hk) rfl rfl c1 e1 rfl rfl rfl rfl (sp_keep g1)) <| fa_nil))
theorem p901 {w : World} {s : Shared} {p : Pos} {N t t1 t2 u0_0 u0_2 u0_4 u0_6 u0_8 u0_10 u0_12 u0_14 u1_3 ur0 ur1 ub1 ub0 : Nat} {v0_0 v0_2 v0_3 v0_4 v0_6 v0_7 v2_32 v3_16 v4_1 v4_2 : Value} {n0_0 n1_0 : Obj} {uu : Nat} (hN : s.heap.objs.size = (N + 1090)) (ht : s.toks = t + 1837) (hg : s.gens = #[]) (hk : AKT s.heap (kt2 w.params uu)) (h0 : Hs s 1095 (loc8 w.params (tk u0_0) v0_0 (tk u0_2) (.ref 1107) (tk u0_4) v0_2 (tk u0_6) v0_3 (tk u0_8) v0_4 (tk u0_10) (.ref 1187) (tk u0_12) v0_6 (tk u0_14) v0_7)) (h1 : Hs s 1100 (box 6 u1_3)) (h2 : Hs s 1106 (sh1106 w.params uu v2_32)) (h3 : Hs s 1186 (sh1186 w.params uu v3_16)) (h4 : Hs s 1260 (sh1260 w.params uu v4_1 v4_2)) (hs : segOK t [(1, t1), (5, t2)]) {q0 : List (Addr × Obj)} {w0 : Nat → List Obj} (c0 : CallOK [lawCode] w (kt2 w.params uu) (.call (.ref 1083) ⟨[(.ref 1100), (iv 2 (tk (t + 0)))], []⟩) (tk (t + 1)) (tk t1) [(1100, (box 6 u1_3))] q0 (iv 0 (tk ur0)) [(1100, (box 7 ub0))] w0) (e0 : w0 ((N + 1090) + 0) = [n0_0]) (g0 : ∀ x ∈ q0, s.heap.get? x.1 = some x.2 ∧ x.1 ∉ [1095, 1100, 1106, 1186, 1260]) {q1 : List (Addr × Obj)} {w1 : Nat → List Obj} (c1 : CallOK [lawCode] w (kt2 w.params uu) (.call (.ref 1083) ⟨[(.ref 1100), (iv 3 (tk (t1 + 4)))], []⟩) (tk (t1 + 5)) (tk t2) [(1100, (box 7 ub0))] q1 (iv 1 (tk ur1)) [(1100, (box 8 ub1))] w1) (e1 : w1 ((N + 1090) + 2) = [n1_0]) (g1 : ∀ x ∈ q1, s.heap.get? x.1 = some x.2 ∧ x.1 ∉ [1095, 1100, 1106, 1186, 1260]) :
  wp (model PP w) Γf (execs (lawSl 9 1) lawEnv) (fun g _ s' => g = .next ∧ After s s' [1095, 1100, 1106, 1186, 1260] (N + 1090) 7 (tk (t2 + 5)) ∧ Hs s' 1095 (loc8 w.params (tk u0_0) v0_0 (tk u0_2) (.ref 1107) (tk u0_4) v0_2 (tk u0_6) v0_3 (tk u0_8) v0_4 (tk u0_10) (.ref 1187) (tk u0_12) v0_6 (tk u0_14) v0_7) ∧ Hs s' 1100 (box 8 ub1) ∧ Hs s' 1106 (sh1106 w.params uu v2_32) ∧ Hs s' 1186 (sh1186 w.params uu (.bool false)) ∧ Hs s' 1260 (sh1260 w.params uu (iv 0 (tk (t1 + 2))) v4_2)) (fun _ _ _ => False) p s := by
  have hkb := kb_of w.params uu (l := [1095, 1100, 1106, 1186, 1260]) (by decide)
  exact Sem.wp_mono _ _ _ (fun g _ s' h => ⟨h.1, h.2.1, h.2.2 _ m0, h.2.2 _ m1, h.2.2 _ m2, h.2.2 _ m3, h.2.2 _ m4⟩) (fun _ _ _ h => h) _ _ (tri (cs_R5.2.2.2.2.2.2.2.2.2.2.2.2.1 w N t t1 t2 u0_0 u0_2 u0_4 u0_6 u0_8 u0_10 u0_12 u0_14 u1_3 ur0 ur1 ub1 ub0 v0_0 v0_2 v0_3 v0_4 v0_6 v0_7 v2_32 v3_16 v4_1 v4_2 n0_0 n1_0 uu p) (by kernel_rfl) hkb (by decide) hN ht hg hk (mc h0 <| mc h1 <| mc h2 <| mc h3 <| mc h4 <| mn) hs (fa_cons (fun RX => spOK_of rfl rfl (sp_base hkb hk) rfl rfl c0 e0 rfl rfl rfl rfl (sp_keep g0)) <| fa_cons (fun RX => spOK_of rfl rfl (sp_base hkb hk) rfl rfl c1 e1 rfl rfl rfl rfl (sp_keep g1)) <| fa_nil))
theorem p902 {w : World} {s : Shared} {p : Pos} {N t t1 t2 u0_0 u0_2 u0_4 u0_6 u0_8 u0_10 u0_12 u0_14 u1_3 ur0 ur1 ub1 ub0 : Nat} {v0_0 v0_2 v0_3 v0_4 v0_6 v0_7 v2_32 v3_16 v4_1 v4_2 : Value} {n0_0 n1_0 : Obj} {uu : Nat} (hN : s.heap.objs.size = (N + 1090)) (ht : s.toks = t + 1837) (hg : s.gens = #[]) (hk : AKT s.heap (kt2 w.params uu)) (h0 : Hs s 1095 (loc8 w.params (tk u0_0) v0_0 (tk u0_2) (.ref 1107) (tk u0_4) v0_2 (tk u0_6) v0_3 (tk u0_8) v0_4 (tk u0_10) (.ref 1187) (tk u0_12) v0_6 (tk u0_14) v0_7)) (h1 : Hs s 1100 (box 6 u1_3)) (h2 : Hs s 1106 (sh1106 w.params uu v2_32)) (h3 : Hs s 1186 (sh1186 w.params uu v3_16)) (h4 : Hs s 1260 (sh1260 w.params uu v4_1 v4_2)) (hs : segOK t [(1, t1), (5, t2)]) {q0 : List (Addr × Obj)} {w0 : Nat → List Obj} (c0 : CallOK [lawCode] w (kt2 w.params uu) (.call (.ref 1083) ⟨[(.ref 1100), (iv 2 (tk (t + 0)))], []⟩) (tk (t + 1)) (tk t1) [(1100, (box 6 u1_3))] q0 (iv 0 (tk ur0)) [(1100, (box 7 ub0))] w0) (e0 : w0 ((N + 1090) + 0) = [n0_0]) (g0 : ∀ x ∈ q0, s.heap.get? x.1 = some x.2 ∧ x.1 ∉ [1095, 1100, 1106, 1186, 1260]) {q1 : List (Addr × Obj)} {w1 : Nat → List Obj} (c1 : CallOK [lawCode] w (kt2 w.params uu) (.call (.ref 1083) ⟨[(.ref 1100), (iv 3 (tk (t1 + 4)))], []⟩) (tk (t1 + 5)) (tk t2) [(1100, (box 7 ub0))] q1 (iv 2 (tk ur1)) [(1100, (box 8 ub1))] w1) (e1 : w1 ((N + 1090) + 2) = [n1_0]) (g1 : ∀ x ∈ q1, s.heap.get? x.1 = some x.2 ∧ x.1 ∉ [1095, 1100, 1106, 1186, 1260]) :
  wp (model PP w) Γf (execs (lawSl 9 1) lawEnv) (fun g _ s' => g = .next ∧ After s s' [1095, 1100, 1106, 1186, 1260] (N + 1090) 7 (tk (t2 + 5)) ∧ Hs s' 1095 (loc8 w.params (tk u0_0) v0_0 (tk u0_2) (.ref 1107) (tk u0_4) v0_2 (tk u0_6) v0_3 (tk u0_8) v0_4 (tk u0_10) (.ref 1187) (tk u0_12) v0_6 (tk u0_14) v0_7) ∧ Hs s' 1100 (box 8 ub1) ∧ Hs s' 1106 (sh1106 w.params uu v2_32) ∧ Hs s' 1186 (sh1186 w.params uu (.bool false)) ∧ Hs s' 1260 (sh1260 w.params uu (iv 2 (tk (t1 + 3))) v4_2)) (fun _ _ _ => False) p s := by
  have hkb := kb_of w.params uu (l := [1095, 1100, 1106, 1186, 1260]) (by decide)
  exact Sem.wp_mono _ _ _ (fun g _ s' h => ⟨h.1, h.2.1, h.2.2 _ m0, h.2.2 _ m1, h.2.2 _ m2, h.2.2 _ m3, h.2.2 _ m4⟩) (fun _ _ _ h => h) _ _ (tri (cs_R5.2.2.2.2.2.2.2.2.2.2.2.2.2.1 w N t t1 t2 u0_0 u0_2 u0_4 u0_6 u0_8 u0_10 u0_12 u0_14 u1_3 ur0 ur1 ub1 ub0 v0_0 v0_2 v0_3 v0_4 v0_6 v0_7 v2_32 v3_16 v4_1 v4_2 n0_0 n1_0 uu p) (by kernel_rfl) hkb (by decide) hN ht hg hk (mc h0 <| mc h1 <| mc h2 <| mc h3 <| mc h4 <| mn) hs (fa_cons (fun RX => spOK_of rfl rfl (sp_base hkb hk) rfl rfl c0 e0 rfl rfl rfl rfl (sp_keep g0)) <| fa_cons (fun RX => spOK_of rfl rfl (sp_base hkb hk) rfl rfl c1 e1 rfl rfl rfl rfl (sp_keep g1)) <| fa_nil))
theorem p910 {w : World} {s : Shared} {p : Pos} {N t t1 t2 u0_0 u0_2 u0_4 u0_6 u0_8 u0_10 u0_12 u0_14 u1_3 ur0 ur1 ub1 ub0 : Nat} {v0_0 v0_2 v0_3 v0_4 v0_6 v0_7 v2_32 v3_16 v4_1 v4_2 : Value} {n0_0 n1_0 : Obj} {uu : Nat} (hN : s.heap.objs.size = (N + 1090)) (ht : s.toks = t + 1837) (hg : s.gens = #[]) (hk : AKT s.heap (kt2 w.params uu)) (h0 : Hs s 1095 (loc8 w.params (tk u0_0) v0_0 (tk u0_2) (.ref 1107) (tk u0_4) v0_2 (tk u0_6) v0_3 (tk u0_8) v0_4 (tk u0_10) (.ref 1187) (tk u0_12) v0_6 (tk u0_14) v0_7)) (h1 : Hs s 1100 (box 6 u1_3)) (h2 : Hs s 1106 (sh1106 w.params uu v2_32)) (h3 : Hs s 1186 (sh1186 w.params uu v3_16)) (h4 : Hs s 1260 (sh1260 w.params uu v4_1 v4_2)) (hs : segOK t [(1, t1), (5, t2)]) {q0 : List (Addr × Obj)} {w0 : Nat → List Obj} (c0 : CallOK [lawCode] w (kt2 w.params uu) (.call (.ref 1083) ⟨[(.ref 1100), (iv 2 (tk (t + 0)))], []⟩) (tk (t + 1)) (tk t1) [(1100, (box 6 u1_3))] q0 (iv 1 (tk ur0)) [(1100, (box 7 ub0))] w0) (e0 : w0 ((N + 1090) + 0) = [n0_0]) (g0 : ∀ x ∈ q0, s.heap.get? x.1 = some x.2 ∧ x.1 ∉ [1095, 1100, 1106, 1186, 1260]) {q1 : List (Addr × Obj)} {w1 : Nat → List Obj} (c1 : CallOK [lawCode] w (kt2 w.params uu) (.call (.ref 1083) ⟨[(.ref 1100), (iv 3 (tk (t1 + 4)))], []⟩) (tk (t1 + 5)) (tk t2) [(1100, (box 7 ub0))] q1 (iv 0 (tk ur1)) [(1100, (box 8 ub1))] w1) (e1 : w1 ((N + 1090) + 2) = [n1_0]) (g1 : ∀ x ∈ q1, s.heap.get? x.1 = some x.2 ∧ x.1 ∉ [1095, 1100, 1106, 1186, 1260]) :
  wp (model PP w) Γf (execs (lawSl 9 1) lawEnv) (fun g _ s' => g = .next ∧ After s s' [1095, 1100, 1106, 1186, 1260] (N + 1090) 7 (tk (t2 + 5)) ∧ Hs s' 1095 (loc8 w.params (tk u0_0) v0_0 (tk u0_2) (.ref 1107) (tk u0_4) v0_2 (tk u0_6) v0_3 (tk u0_8) v0_4 (tk u0_10) (.ref 1187) (tk u0_12) v0_6 (tk u0_14) v0_7) ∧ Hs s' 1100 (box 8 ub1) ∧ Hs s' 1106 (sh1106 w.params uu v2_32) ∧ Hs s' 1186 (sh1186 w.params uu (.bool true)) ∧ Hs s' 1260 (sh1260 w.params uu (iv 0 (tk (t1 + 1))) v4_2)) (fun _ _ _ => False) p s := by
  have hkb := kb_of w.params uu (l := [1095, 1100, 1106, 1186, 1260]) (by decide)
  exact Sem.wp_mono _ _ _ (fun g _ s' h => ⟨h.1, h.2.1, h.2.2 _ m0, h.2.2 _ m1, h.2.2 _ m2, h.2.2 _ m3, h.2.2 _ m4⟩) (fun _ _ _ h => h) _ _ (tri (cs_R5.2.2.2.2.2.2.2.2.2.2.2.2.2.2.1 w N t t1 t2 u0_0 u0_2 u0_4 u0_6 u0_8 u0_10 u0_12 u0_14 u1_3 ur0 ur1 ub1 ub0 v0_0 v0_2 v0_3 v0_4 v0_6 v0_7 v2_32 v3_16 v4_1 v4_2 n0_0 n1_0 uu p) (by kernel_rfl) hkb (by decide) hN ht hg hk (mc h0 <| mc h1 <| mc h2 <| mc h3 <| mc h4 <| mn) hs (fa_cons (fun RX => spOK_of rfl rfl (sp_base hkb hk) rfl rfl c0 e0 rfl rfl rfl rfl (sp_keep g0)) <| fa_cons (fun RX => spOK_of rfl rfl (sp_base hkb hk) rfl rfl c1 e1 rfl rfl rfl rfl (sp_keep g1)) <| fa_nil))
theorem p911 {w : World} {s : Shared} {p : Pos} {N t t1 t2 u0_0 u0_2 u0_4 u0_6 u0_8 u0_10 u0_12 u0_14 u1_3 ur0 ur1 ub1 ub0 : Nat} {v0_0 v0_2 v0_3 v0_4 v0_6 v0_7 v2_32 v3_16 v4_1 v4_2 : Value} {n0_0 n1_0 : Obj} {uu : Nat} (hN : s.heap.objs.size = (N + 1090)) (ht : s.toks = t + 1837) (hg : s.gens = #[]) (hk : AKT s.heap (kt2 w.params uu)) (h0 : Hs s 1095 (loc8 w.params (tk u0_0) v0_0 (tk u0_2) (.ref 1107) (tk u0_4) v0_2 (tk u0_6) v0_3 (tk u0_8) v0_4 (tk u0_10) (.ref 1187) (tk u0_12) v0_6 (tk u0_14) v0_7)) (h1 : Hs s 1100 (box 6 u1_3)) (h2 : Hs s 1106 (sh1106 w.params uu v2_32)) (h3 : Hs s 1186 (sh1186 w.params uu v3_16)) (h4 : Hs s 1260 (sh1260 w.params uu v4_1 v4_2)) (hs : segOK t [(1, t1), (5, t2)]) {q0 : List (Addr × Obj)} {w0 : Nat → List Obj} (c0 : CallOK [lawCode] w (kt2 w.params uu) (.call (.ref 1083) ⟨[(.ref 1100), (iv 2 (tk (t + 0)))], []⟩) (tk (t + 1)) (tk t1) [(1100, (box 6 u1_3))] q0 (iv 1 (tk ur0)) [(1100, (box 7 ub0))] w0) (e0 : w0 ((N + 1090) + 0) = [n0_0]) (g0 : ∀ x ∈ q0, s.heap.get? x.1 = some x.2 ∧ x.1 ∉ [1095, 1100, 1106, 1186, 1260]) {q1 : List (Addr × Obj)} {w1 : Nat → List Obj} (c1 : CallOK [lawCode] w (kt2 w.params uu) (.call (.ref 1083) ⟨[(.ref 1100), (iv 3 (tk (t1 + 4)))], []⟩) (tk (t1 + 5)) (tk t2) [(1100, (box 7 ub0))] q1 (iv 1 (tk ur1)) [(1100, (box 8 ub1))] w1) (e1 : w1 ((N + 1090) + 2) = [n1_0]) (g1 : ∀ x ∈ q1, s.heap.get? x.1 = some x.2 ∧ x.1 ∉ [1095, 1100, 1106, 1186, 1260]) :
  wp (model PP w) Γf (execs (lawSl 9 1) lawEnv) (fun g _ s' => g = .next ∧ After s s' [1095, 1100, 1106, 1186, 1260] (N + 1090) 7 (tk (t2 + 5)) ∧ Hs s' 1095 (loc8 w.params (tk u0_0) v0_0 (tk u0_2) (.ref 1107) (tk u0_4) v0_2 (tk u0_6) v0_3 (tk u0_8) v0_4 (tk u0_10) (.ref 1187) (tk u0_12) v0_6 (tk u0_14) v0_7) ∧ Hs s' 1100 (box 8 ub1) ∧ Hs s' 1106 (sh1106 w.params uu v2_32) ∧ Hs s' 1186 (sh1186 w.params uu (.bool true)) ∧ Hs s' 1260 (sh1260 w.params uu (iv 0 (tk (t1 + 2))) v4_2)) (fun _ _ _ => False) p s := by
  have hkb := kb_of w.params uu (l := [1095, 1100, 1106, 1186, 1260]) (by decide)
  exact Sem.wp_mono _ _ _ (fun g _ s' h => ⟨h.1, h.2.1, h.2.2 _ m0, h.2.2 _ m1, h.2.2 _ m2, h.2.2 _ m3, h.2.2 _ m4⟩) (fun _ _ _ h => h) _ _ (tri (cs_R5.2.2.2.2.2.2.2.2.2.2.2.2.2.2.2.1 w N t t1 t2 u0_0 u0_2 u0_4 u0_6 u0_8 u0_10 u0_12 u0_14 u1_3 ur0 ur1 ub1 ub0 v0_0 v0_2 v0_3 v0_4 v0_6 v0_7 v2_32 v3_16 v4_1 v4_2 n0_0 n1_0 uu p) (by kernel_rfl) hkb (by decide) hN ht hg hk (mc h0 <| mc h1 <| mc h2 <| mc h3 <| mc h4 <| mn) hs (fa_cons (fun RX => spOK_of rfl rfl (sp_base hkb hk) rfl rfl c0 e0 rfl rfl rfl rfl (sp_keep g0)) <| fa_cons (fun RX => spOK_of rfl rfl (sp_base hkb hk) rfl rfl c1 e1 rfl rfl rfl rfl (sp_keep g1)) <| fa_nil))
theorem p912 {w : World} {s : Shared} {p : Pos} {N t t1 t2 u0_0 u0_2 u0_4 u0_6 u0_8 u0_10 u0_12 u0_14 u1_3 ur0 ur1 ub1 ub0 : Nat} {v0_0 v0_2 v0_3 v0_4 v0_6 v0_7 v2_32 v3_16 v4_1 v4_2 : Value} {n0_0 n1_0 : Obj} {uu : Nat} (hN : s.heap.objs.size = (N + 1090)) (ht : s.toks = t + 1837) (hg : s.gens = #[]) (hk : AKT s.heap (kt2 w.params uu)) (h0 : Hs s 1095 (loc8 w.params (tk u0_0) v0_0 (tk u0_2) (.ref 1107) (tk u0_4) v0_2 (tk u0_6) v0_3 (tk u0_8) v0_4 (tk u0_10) (.ref 1187) (tk u0_12) v0_6 (tk u0_14) v0_7)) (h1 : Hs s 1100 (box 6 u1_3)) (h2 : Hs s 1106 (sh1106 w.params uu v2_32)) (h3 : Hs s 1186 (sh1186 w.params uu v3_16)) (h4 : Hs s 1260 (sh1260 w.params uu v4_1 v4_2)) (hs : segOK t [(1, t1), (5, t2)]) {q0 : List (Addr × Obj)} {w0 : Nat → List Obj} (c0 : CallOK [lawCode] w (kt2 w.params uu) (.call (.ref 1083) ⟨[(.ref 1100), (iv 2 (tk (t + 0)))], []⟩) (tk (t + 1)) (tk t1) [(1100, (box 6 u1_3))] q0 (iv 1 (tk ur0)) [(1100, (box 7 ub0))] w0) (e0 : w0 ((N + 1090) + 0) = [n0_0]) (g0 : ∀ x ∈ q0, s.heap.get? x.1 = some x.2 ∧ x.1 ∉ [1095, 1100, 1106, 1186, 1260]) {q1 : List (Addr × Obj)} {w1 : Nat → List Obj} (c1 : CallOK [lawCode] w (kt2 w.params uu) (.call (.ref 1083) ⟨[(.ref 1100), (iv 3 (tk (t1 + 4)))], []⟩) (tk (t1 + 5)) (tk t2) [(1100, (box 7 ub0))] q1 (iv 2 (tk ur1)) [(1100, (box 8 ub1))] w1) (e1 : w1 ((N + 1090) + 2) = [n1_0]) (g1 : ∀ x ∈ q1, s.heap.get? x.1 = some x.2 ∧ x.1 ∉ [1095, 1100, 1106, 1186, 1260]) :
  wp (model PP w) Γf (execs (lawSl 9 1) lawEnv) (fun g _ s' => g = .next ∧ After s s' [1095, 1100, 1106, 1186, 1260] (N + 1090) 7 (tk (t2 + 5)) ∧ Hs s' 1095 (loc8 w.params (tk u0_0) v0_0 (tk u0_2) (.ref 1107) (tk u0_4) v0_2 (tk u0_6) v0_3 (tk u0_8) v0_4 (tk u0_10) (.ref 1187) (tk u0_12) v0_6 (tk u0_14) v0_7) ∧ Hs s' 1100 (box 8 ub1) ∧ Hs s' 1106 (sh1106 w.params uu v2_32) ∧ Hs s' 1186 (sh1186 w.params uu (.bool true)) ∧ Hs s' 1260 (sh1260 w.params uu (iv 2 (tk (t1 + 3))) v4_2)) (fun _ _ _ => False) p s := by
  have hkb := kb_of w.params uu (l := [1095, 1100, 1106, 1186, 1260]) (by decide)
  exact Sem.wp_mono _ _ _ (fun g _ s' h => ⟨h.1, h.2.1, h.2.2 _ m0, h.2.2 _ m1, h.2.2 _ m2, h.2.2 _ m3, h.2.2 _ m4⟩) (fun _ _ _ h => h) _ _ (tri (cs_R5.2.2.2.2.2.2.2.2.2.2.2.2.2.2.2.2 w N t t1 t2 u0_0 u0_2 u0_4 u0_6 u0_8 u0_10 u0_12 u0_14 u1_3 ur0 ur1 ub1 ub0 v0_0 v0_2 v0_3 v0_4 v0_6 v0_7 v2_32 v3_16 v4_1 v4_2 n0_0 n1_0 uu p) (by kernel_rfl) hkb (by decide) hN ht hg hk (mc h0 <| mc h1 <| mc h2 <| mc h3 <| mc h4 <| mn) hs (fa_cons (fun RX => spOK_of rfl rfl (sp_base hkb hk) rfl rfl c0 e0 rfl rfl rfl rfl (sp_keep g0)) <| fa_cons (fun RX => spOK_of rfl rfl (sp_base hkb hk) rfl rfl c1 e1 rfl rfl rfl rfl (sp_keep g1)) <| fa_nil))

end
end Mine
end
section
set_option maxRecDepth 100000
set_option linter.unusedVariables false
open PySem PySem.W PySem.Calls PyProof.Rows
open PySem.Sem (wp)
namespace Mine
noncomputable section
def r_p10o (w : World) (N t u0_0 u0_2 u0_4 u0_6 u0_8 u0_10 u0_12 u0_14 : Nat) (v0_0 v0_2 v0_3 v0_4 v0_5 v0_6 v0_7 v1_32 v2_0 : Value) (uu : Nat) (p : Pos) : St :=
  runE (VL w (kt2 w.params uu) [1095, 1106, 1305] (N + 1090) t [] [] belL) 37 [(0, (loc9 w.params (tk u0_0) v0_0 (tk u0_2) (.ref 1107) (tk u0_4) v0_2 (tk u0_6) v0_3 (tk u0_8) v0_4 (tk u0_10) v0_5 (tk u0_12) v0_6 (tk u0_14) v0_7 (tk (t + 1)) (.bool true))),
    (1, (sh1106 w.params uu v1_32)),
    (2, (ls #[v2_0] 1))] .next 1 2 lawCode p [] (tree 10 1) (mkT [(loc8 w.params (tk u0_0) v0_0 (tk u0_2) (.ref 1107) (tk u0_4) v0_2 (tk u0_6) v0_3 (tk u0_8) v0_4 (tk u0_10) v0_5 (tk u0_12) v0_6 (tk u0_14) v0_7),
    (sh1106 w.params uu v1_32),
    (ls #[v2_0] 1)] 0 .nil) 0 0 0 (dec [0x221115481154822245431111111111112]) .nil
def r_p10a (w : World) (N t u0_0 u0_2 u0_4 u0_6 u0_8 u0_10 u0_12 u0_14 : Nat) (v0_0 v0_2 v0_3 v0_4 v0_5 v0_6 v1_32 : Value) (uu : Nat) (p : Pos) : St :=
  runE (VL w (kt2 w.params uu) [1095, 1106, 1305] (N + 1090) t [] [] belL) 40 [(0, (loc9 w.params (tk u0_0) v0_0 (tk u0_2) (.ref 1107) (tk u0_4) v0_2 (tk u0_6) v0_3 (tk u0_8) v0_4 (tk u0_10) v0_5 (tk u0_12) v0_6 (tk u0_14) (.bool true) (tk (t + 1)) (.bool true))),
    (1, (sh1106 w.params uu v1_32)),
    (2, (ls #[] 0))] .next 1 2 lawCode p [] (tree 10 1) (mkT [(loc8 w.params (tk u0_0) v0_0 (tk u0_2) (.ref 1107) (tk u0_4) v0_2 (tk u0_6) v0_3 (tk u0_8) v0_4 (tk u0_10) v0_5 (tk u0_12) v0_6 (tk u0_14) (.bool true)),
    (sh1106 w.params uu v1_32),
    (ls #[] 0)] 0 .nil) 0 0 0 (dec [0x2212115481154822245431111111111112]) .nil
def r_p10p (w : World) (N t u0_0 u0_2 u0_4 u0_6 u0_8 u0_10 u0_12 u0_14 u3_3 : Nat) (v0_0 v0_2 v0_3 v0_4 v0_5 v0_6 v1_32 v3_2 : Value) (uu : Nat) (p : Pos) : St :=
  runE (VL w (kt2 w.params uu) [1095, 1106, 1305, 1260] (N + 1090) t [] [] belL) 73 [(0, (loc9 w.params (tk u0_0) v0_0 (tk u0_2) (.ref 1107) (tk u0_4) v0_2 (tk u0_6) v0_3 (tk u0_8) v0_4 (tk u0_10) v0_5 (tk u0_12) v0_6 (tk u0_14) (.bool false) (tk (t + 5)) (.bool true))),
    (1, (sh1106 w.params uu v1_32)),
    (2, (ls #[] 0)),
    (3, (sh1260 w.params uu (iv 2 (tk u3_3)) v3_2))] .next 1 6 lawCode p [] (tree 10 1) (mkT [(loc8 w.params (tk u0_0) v0_0 (tk u0_2) (.ref 1107) (tk u0_4) v0_2 (tk u0_6) v0_3 (tk u0_8) v0_4 (tk u0_10) v0_5 (tk u0_12) v0_6 (tk u0_14) (.bool false)),
    (sh1106 w.params uu v1_32),
    (ls #[] 0),
    (sh1260 w.params uu (iv 2 (tk u3_3)) v3_2)] 0 .nil) 0 0 0 (dec [0x22111222152555311111111111122116481164822246431111111111112]) .nil
def r_p10d (w : World) (N t u0_0 u0_2 u0_4 u0_6 u0_8 u0_10 u0_12 u0_13 u0_14 u3_3 : Nat) (v0_0 v0_2 v0_3 v0_4 v1_32 v3_2 : Value) (uu : Nat) (p : Pos) : St :=
  runE (VL w (kt2 w.params uu) [1095, 1106, 1305, 1260, 1186] (N + 1090) t [] [] belL) 101 [(0, (loc9 w.params (tk u0_0) v0_0 (tk u0_2) (.ref 1107) (tk u0_4) v0_2 (tk u0_6) v0_3 (tk u0_8) v0_4 (tk u0_10) (.ref 1187) (tk u0_12) (iv 1 (tk u0_13)) (tk u0_14) (.bool false) (tk (t + 7)) (.bool true))),
    (1, (sh1106 w.params uu v1_32)),
    (2, (ls #[] 0)),
    (3, (sh1260 w.params uu (iv 0 (tk u3_3)) v3_2)),
    (4, (sh1186 w.params uu (.bool false)))] .next 1 8 lawCode p [] (tree 10 1) (mkT [(loc8 w.params (tk u0_0) v0_0 (tk u0_2) (.ref 1107) (tk u0_4) v0_2 (tk u0_6) v0_3 (tk u0_8) v0_4 (tk u0_10) (.ref 1187) (tk u0_12) (iv 1 (tk u0_13)) (tk u0_14) (.bool false)),
    (sh1106 w.params uu v1_32),
    (ls #[] 0),
    (sh1260 w.params uu (iv 0 (tk u3_3)) v3_2),
    (sh1186 w.params uu (.bool false))] 0 .nil) 0 0 0 (dec [0x222211222152555311111111111122117481174822247431111111111112, 0x2216111111111111211]) .nil
def r_p10g (w : World) (N t u0_0 u0_2 u0_4 u0_6 u0_8 u0_10 u0_12 u0_13 u0_14 u3_3 : Nat) (v0_0 v0_2 v0_3 v0_4 v1_32 v3_2 : Value) (uu : Nat) (p : Pos) : St :=
  runE (VL w (kt2 w.params uu) [1095, 1106, 1305, 1260, 1186] (N + 1090) t [] [] belL) 101 [(0, (loc9 w.params (tk u0_0) v0_0 (tk u0_2) (.ref 1107) (tk u0_4) v0_2 (tk u0_6) v0_3 (tk u0_8) v0_4 (tk u0_10) (.ref 1187) (tk u0_12) (iv 1 (tk u0_13)) (tk u0_14) (.bool false) (tk (t + 7)) (.bool false))),
    (1, (sh1106 w.params uu v1_32)),
    (2, (ls #[] 0)),
    (3, (sh1260 w.params uu (iv 0 (tk u3_3)) v3_2)),
    (4, (sh1186 w.params uu (.bool true)))] .next 1 8 lawCode p [] (tree 10 1) (mkT [(loc8 w.params (tk u0_0) v0_0 (tk u0_2) (.ref 1107) (tk u0_4) v0_2 (tk u0_6) v0_3 (tk u0_8) v0_4 (tk u0_10) (.ref 1187) (tk u0_12) (iv 1 (tk u0_13)) (tk u0_14) (.bool false)),
    (sh1106 w.params uu v1_32),
    (ls #[] 0),
    (sh1260 w.params uu (iv 0 (tk u3_3)) v3_2),
    (sh1186 w.params uu (.bool true))] 0 .nil) 0 0 0 (dec [0x222211222152555311111111111122117481174822247431111111111112, 0x2216111111111111211]) .nil
def r_p10n (w : World) (N t u0_0 u0_2 u0_4 u0_6 u0_8 u0_10 u0_12 u0_13 u0_14 u3_3 : Nat) (v0_0 v0_2 v0_3 v0_4 v0_5 v1_32 v3_2 : Value) (uu : Nat) (p : Pos) : St :=
  runE (VL w (kt2 w.params uu) [1095, 1106, 1305, 1260] (N + 1090) t [] [] belL) 81 [(0, (loc9 w.params (tk u0_0) v0_0 (tk u0_2) (.ref 1107) (tk u0_4) v0_2 (tk u0_6) v0_3 (tk u0_8) v0_4 (tk u0_10) v0_5 (tk u0_12) (iv 0 (tk u0_13)) (tk u0_14) (.bool false) (tk (t + 6)) (.bool false))),
    (1, (sh1106 w.params uu v1_32)),
    (2, (ls #[] 0)),
    (3, (sh1260 w.params uu (iv 0 (tk u3_3)) v3_2))] .next 1 7 lawCode p [] (tree 10 1) (mkT [(loc8 w.params (tk u0_0) v0_0 (tk u0_2) (.ref 1107) (tk u0_4) v0_2 (tk u0_6) v0_3 (tk u0_8) v0_4 (tk u0_10) v0_5 (tk u0_12) (iv 0 (tk u0_13)) (tk u0_14) (.bool false)),
    (sh1106 w.params uu v1_32),
    (ls #[] 0),
    (sh1260 w.params uu (iv 0 (tk u3_3)) v3_2)] 0 .nil) 0 0 0 (dec [0x222211222152555311111111111122116481164822246431111111111112, 0x22111]) .nil
def r_p11w2 (w : World) (N t t1 u0_0 u0_2 u0_4 u0_6 u0_8 u0_10 u0_12 u0_14 u0_16 : Nat) (v0_0 v0_2 v0_3 v0_4 v0_5 v0_6 v0_7 : Value) (n0_0 n0_1 : Obj) (uu : Nat) (p : Pos) : St :=
  runE (VL w (kt2 w.params uu) [1095] (N + 1090) t [(0, t1)] [⟨some [lawCode], (.call (.ref 459) ⟨[(.ref 1107)], []⟩), 0, 0, 1, [], (.bool false), [], [n0_0, n0_1]⟩] belL) 16 [(0, (loc9 w.params (tk u0_0) v0_0 (tk u0_2) (.ref 1107) (tk u0_4) v0_2 (tk u0_6) v0_3 (tk u0_8) v0_4 (tk u0_10) v0_5 (tk u0_12) v0_6 (tk u0_14) v0_7 (tk u0_16) (.bool true)))] .next 2 1 lawCode p [] (tree 11 1) (mkT [(loc9 w.params (tk u0_0) v0_0 (tk u0_2) (.ref 1107) (tk u0_4) v0_2 (tk u0_6) v0_3 (tk u0_8) v0_4 (tk u0_10) v0_5 (tk u0_12) v0_6 (tk u0_14) v0_7 (tk u0_16) (.bool true))] 0 .nil) 0 0 0 (dec [0x11222200ca121]) .nil
def r_p11w4 (w : World) (N t t1 u0_0 u0_2 u0_4 u0_6 u0_8 u0_10 u0_12 u0_14 u0_16 : Nat) (v0_0 v0_2 v0_3 v0_4 v0_5 v0_6 v0_7 : Value) (n0_0 n0_1 n0_2 n0_3 : Obj) (uu : Nat) (p : Pos) : St :=
  runE (VL w (kt2 w.params uu) [1095] (N + 1090) t [(0, t1)] [⟨some [lawCode], (.call (.ref 459) ⟨[(.ref 1107)], []⟩), 0, 0, 1, [], (.bool false), [], [n0_0, n0_1, n0_2, n0_3]⟩] belL) 16 [(0, (loc9 w.params (tk u0_0) v0_0 (tk u0_2) (.ref 1107) (tk u0_4) v0_2 (tk u0_6) v0_3 (tk u0_8) v0_4 (tk u0_10) v0_5 (tk u0_12) v0_6 (tk u0_14) v0_7 (tk u0_16) (.bool true)))] .next 4 1 lawCode p [] (tree 11 1) (mkT [(loc9 w.params (tk u0_0) v0_0 (tk u0_2) (.ref 1107) (tk u0_4) v0_2 (tk u0_6) v0_3 (tk u0_8) v0_4 (tk u0_10) v0_5 (tk u0_12) v0_6 (tk u0_14) v0_7 (tk u0_16) (.bool true))] 0 .nil) 0 0 0 (dec [0x11222200ca121]) .nil
def r_p11w5 (w : World) (N t t1 u0_0 u0_2 u0_4 u0_6 u0_8 u0_10 u0_12 u0_14 u0_16 : Nat) (v0_0 v0_2 v0_3 v0_4 v0_5 v0_6 v0_7 : Value) (n0_0 n0_1 n0_2 n0_3 n0_4 : Obj) (uu : Nat) (p : Pos) : St :=
  runE (VL w (kt2 w.params uu) [1095] (N + 1090) t [(0, t1)] [⟨some [lawCode], (.call (.ref 459) ⟨[(.ref 1107)], []⟩), 0, 0, 1, [], (.bool false), [], [n0_0, n0_1, n0_2, n0_3, n0_4]⟩] belL) 16 [(0, (loc9 w.params (tk u0_0) v0_0 (tk u0_2) (.ref 1107) (tk u0_4) v0_2 (tk u0_6) v0_3 (tk u0_8) v0_4 (tk u0_10) v0_5 (tk u0_12) v0_6 (tk u0_14) v0_7 (tk u0_16) (.bool true)))] .next 5 1 lawCode p [] (tree 11 1) (mkT [(loc9 w.params (tk u0_0) v0_0 (tk u0_2) (.ref 1107) (tk u0_4) v0_2 (tk u0_6) v0_3 (tk u0_8) v0_4 (tk u0_10) v0_5 (tk u0_12) v0_6 (tk u0_14) v0_7 (tk u0_16) (.bool true))] 0 .nil) 0 0 0 (dec [0x11222200ca121]) .nil
def r_p11w7 (w : World) (N t t1 u0_0 u0_2 u0_4 u0_6 u0_8 u0_10 u0_12 u0_14 u0_16 : Nat) (v0_0 v0_2 v0_3 v0_4 v0_5 v0_6 v0_7 : Value) (n0_0 n0_1 n0_2 n0_3 n0_4 n0_5 n0_6 : Obj) (uu : Nat) (p : Pos) : St :=
  runE (VL w (kt2 w.params uu) [1095] (N + 1090) t [(0, t1)] [⟨some [lawCode], (.call (.ref 459) ⟨[(.ref 1107)], []⟩), 0, 0, 1, [], (.bool false), [], [n0_0, n0_1, n0_2, n0_3, n0_4, n0_5, n0_6]⟩] belL) 16 [(0, (loc9 w.params (tk u0_0) v0_0 (tk u0_2) (.ref 1107) (tk u0_4) v0_2 (tk u0_6) v0_3 (tk u0_8) v0_4 (tk u0_10) v0_5 (tk u0_12) v0_6 (tk u0_14) v0_7 (tk u0_16) (.bool true)))] .next 7 1 lawCode p [] (tree 11 1) (mkT [(loc9 w.params (tk u0_0) v0_0 (tk u0_2) (.ref 1107) (tk u0_4) v0_2 (tk u0_6) v0_3 (tk u0_8) v0_4 (tk u0_10) v0_5 (tk u0_12) v0_6 (tk u0_14) v0_7 (tk u0_16) (.bool true))] 0 .nil) 0 0 0 (dec [0x11222200ca121]) .nil
def r_p11n (w : World) (N t t1 u0_0 u0_2 u0_4 u0_6 u0_8 u0_10 u0_12 u0_14 u0_16 : Nat) (v0_0 v0_2 v0_3 v0_5 v0_6 v0_7 : Value) (n0_0 n0_1 n0_2 n0_3 n0_4 n0_5 n0_6 n0_7 : Obj) (uu : Nat) (p : Pos) : St :=
  runE (VL w (kt2 w.params uu) [1095, 1356] (N + 1090) t [(0, t1)] [⟨some [lawCode], (.call (.ref 459) ⟨[(.ref 1107)], []⟩), 0, 0, 1, [], (.bool true), [], [n0_0, n0_1, n0_2, n0_3, n0_4, n0_5, n0_6, n0_7]⟩] belL) 27 [(0, (loc9 w.params (tk u0_0) v0_0 (tk u0_2) (.ref 1107) (tk u0_4) v0_2 (tk u0_6) v0_3 (tk u0_8) (.ref 1356) (tk u0_10) v0_5 (tk u0_12) v0_6 (tk u0_14) v0_7 (tk u0_16) (.bool false))),
    (1, (ls #[] 0))] .next 9 1 lawCode p [] (tree 11 1) (mkT [(loc9 w.params (tk u0_0) v0_0 (tk u0_2) (.ref 1107) (tk u0_4) v0_2 (tk u0_6) v0_3 (tk u0_8) (.ref 1356) (tk u0_10) v0_5 (tk u0_12) v0_6 (tk u0_14) v0_7 (tk u0_16) (.bool false)),
    (ls #[] 0)] 0 .nil) 0 0 0 (dec [0x11222110381103822230cc32200ca121]) .nil
def r_p11h (w : World) (N t t1 u0_0 u0_2 u0_4 u0_6 u0_8 u0_10 u0_12 u0_14 u0_16 : Nat) (v0_0 v0_2 v0_3 v0_5 v0_6 v0_7 v1_0 : Value) (n0_0 n0_1 n0_2 n0_3 n0_4 n0_5 n0_6 : Obj) (uu : Nat) (p : Pos) : St :=
  runE (VL w (kt2 w.params uu) [1095, 1356] (N + 1090) t [(0, t1)] [⟨some [lawCode], (.call (.ref 459) ⟨[(.ref 1107)], []⟩), 0, 0, 1, [], (.bool false), [], [n0_0, n0_1, n0_2, n0_3, n0_4, n0_5, n0_6]⟩] belL) 27 [(0, (loc9 w.params (tk u0_0) v0_0 (tk u0_2) (.ref 1107) (tk u0_4) v0_2 (tk u0_6) v0_3 (tk u0_8) (.ref 1356) (tk u0_10) v0_5 (tk u0_12) v0_6 (tk u0_14) v0_7 (tk u0_16) (.bool false))),
    (1, (ls #[v1_0] 1))] .next 8 1 lawCode p [] (tree 11 1) (mkT [(loc9 w.params (tk u0_0) v0_0 (tk u0_2) (.ref 1107) (tk u0_4) v0_2 (tk u0_6) v0_3 (tk u0_8) (.ref 1356) (tk u0_10) v0_5 (tk u0_12) v0_6 (tk u0_14) v0_7 (tk u0_16) (.bool false)),
    (ls #[v1_0] 1)] 0 .nil) 0 0 0 (dec [0x1122211b3811b382223b32200ca121]) .nil
def r_p11b (w : World) (N t t1 u0_0 u0_2 u0_4 u0_6 u0_8 u0_10 u0_12 u0_14 u0_16 : Nat) (v0_0 v0_2 v0_3 v0_5 v0_6 v0_7 v1_0 v1_1 : Value) (n0_0 n0_1 n0_2 n0_3 n0_4 n0_5 n0_6 : Obj) (uu : Nat) (p : Pos) : St :=
  runE (VL w (kt2 w.params uu) [1095, 1356] (N + 1090) t [(0, t1)] [⟨some [lawCode], (.call (.ref 459) ⟨[(.ref 1107)], []⟩), 0, 0, 1, [], (.bool false), [], [n0_0, n0_1, n0_2, n0_3, n0_4, n0_5, n0_6]⟩] belL) 27 [(0, (loc9 w.params (tk u0_0) v0_0 (tk u0_2) (.ref 1107) (tk u0_4) v0_2 (tk u0_6) v0_3 (tk u0_8) (.ref 1356) (tk u0_10) v0_5 (tk u0_12) v0_6 (tk u0_14) v0_7 (tk u0_16) (.bool false))),
    (1, (ls #[v1_0, v1_1] 2))] .next 8 1 lawCode p [] (tree 11 1) (mkT [(loc9 w.params (tk u0_0) v0_0 (tk u0_2) (.ref 1107) (tk u0_4) v0_2 (tk u0_6) v0_3 (tk u0_8) (.ref 1356) (tk u0_10) v0_5 (tk u0_12) v0_6 (tk u0_14) v0_7 (tk u0_16) (.bool false)),
    (ls #[v1_0, v1_1] 2)] 0 .nil) 0 0 0 (dec [0x1122211b3811b382223b32200ca121]) .nil
theorem cs_R10 :
  (∀ (w : World) (N t u0_0 u0_2 u0_4 u0_6 u0_8 u0_10 u0_12 u0_14 : Nat) (v0_0 v0_2 v0_3 v0_4 v0_5 v0_6 v0_7 v1_32 v2_0 : Value) (uu : Nat) (p : Pos), okR (r_p10o w N t u0_0 u0_2 u0_4 u0_6 u0_8 u0_10 u0_12 u0_14 v0_0 v0_2 v0_3 v0_4 v0_5 v0_6 v0_7 v1_32 v2_0 uu p)) ∧
  (∀ (w : World) (N t u0_0 u0_2 u0_4 u0_6 u0_8 u0_10 u0_12 u0_14 : Nat) (v0_0 v0_2 v0_3 v0_4 v0_5 v0_6 v1_32 : Value) (uu : Nat) (p : Pos), okR (r_p10a w N t u0_0 u0_2 u0_4 u0_6 u0_8 u0_10 u0_12 u0_14 v0_0 v0_2 v0_3 v0_4 v0_5 v0_6 v1_32 uu p)) ∧
  (∀ (w : World) (N t u0_0 u0_2 u0_4 u0_6 u0_8 u0_10 u0_12 u0_14 u3_3 : Nat) (v0_0 v0_2 v0_3 v0_4 v0_5 v0_6 v1_32 v3_2 : Value) (uu : Nat) (p : Pos), okR (r_p10p w N t u0_0 u0_2 u0_4 u0_6 u0_8 u0_10 u0_12 u0_14 u3_3 v0_0 v0_2 v0_3 v0_4 v0_5 v0_6 v1_32 v3_2 uu p)) ∧
  (∀ (w : World) (N t u0_0 u0_2 u0_4 u0_6 u0_8 u0_10 u0_12 u0_13 u0_14 u3_3 : Nat) (v0_0 v0_2 v0_3 v0_4 v1_32 v3_2 : Value) (uu : Nat) (p : Pos), okR (r_p10d w N t u0_0 u0_2 u0_4 u0_6 u0_8 u0_10 u0_12 u0_13 u0_14 u3_3 v0_0 v0_2 v0_3 v0_4 v1_32 v3_2 uu p)) ∧
  (∀ (w : World) (N t u0_0 u0_2 u0_4 u0_6 u0_8 u0_10 u0_12 u0_13 u0_14 u3_3 : Nat) (v0_0 v0_2 v0_3 v0_4 v1_32 v3_2 : Value) (uu : Nat) (p : Pos), okR (r_p10g w N t u0_0 u0_2 u0_4 u0_6 u0_8 u0_10 u0_12 u0_13 u0_14 u3_3 v0_0 v0_2 v0_3 v0_4 v1_32 v3_2 uu p)) ∧
  (∀ (w : World) (N t u0_0 u0_2 u0_4 u0_6 u0_8 u0_10 u0_12 u0_13 u0_14 u3_3 : Nat) (v0_0 v0_2 v0_3 v0_4 v0_5 v1_32 v3_2 : Value) (uu : Nat) (p : Pos), okR (r_p10n w N t u0_0 u0_2 u0_4 u0_6 u0_8 u0_10 u0_12 u0_13 u0_14 u3_3 v0_0 v0_2 v0_3 v0_4 v0_5 v1_32 v3_2 uu p)) ∧
  (∀ (w : World) (N t t1 u0_0 u0_2 u0_4 u0_6 u0_8 u0_10 u0_12 u0_14 u0_16 : Nat) (v0_0 v0_2 v0_3 v0_4 v0_5 v0_6 v0_7 : Value) (n0_0 n0_1 : Obj) (uu : Nat) (p : Pos), okR (r_p11w2 w N t t1 u0_0 u0_2 u0_4 u0_6 u0_8 u0_10 u0_12 u0_14 u0_16 v0_0 v0_2 v0_3 v0_4 v0_5 v0_6 v0_7 n0_0 n0_1 uu p)) ∧
  (∀ (w : World) (N t t1 u0_0 u0_2 u0_4 u0_6 u0_8 u0_10 u0_12 u0_14 u0_16 : Nat) (v0_0 v0_2 v0_3 v0_4 v0_5 v0_6 v0_7 : Value) (n0_0 n0_1 n0_2 n0_3 : Obj) (uu : Nat) (p : Pos), okR (r_p11w4 w N t t1 u0_0 u0_2 u0_4 u0_6 u0_8 u0_10 u0_12 u0_14 u0_16 v0_0 v0_2 v0_3 v0_4 v0_5 v0_6 v0_7 n0_0 n0_1 n0_2 n0_3 uu p)) ∧
  (∀ (w : World) (N t t1 u0_0 u0_2 u0_4 u0_6 u0_8 u0_10 u0_12 u0_14 u0_16 : Nat) (v0_0 v0_2 v0_3 v0_4 v0_5 v0_6 v0_7 : Value) (n0_0 n0_1 n0_2 n0_3 n0_4 : Obj) (uu : Nat) (p : Pos), okR (r_p11w5 w N t t1 u0_0 u0_2 u0_4 u0_6 u0_8 u0_10 u0_12 u0_14 u0_16 v0_0 v0_2 v0_3 v0_4 v0_5 v0_6 v0_7 n0_0 n0_1 n0_2 n0_3 n0_4 uu p)) ∧
  (∀ (w : World) (N t t1 u0_0 u0_2 u0_4 u0_6 u0_8 u0_10 u0_12 u0_14 u0_16 : Nat) (v0_0 v0_2 v0_3 v0_4 v0_5 v0_6 v0_7 : Value) (n0_0 n0_1 n0_2 n0_3 n0_4 n0_5 n0_6 : Obj) (uu : Nat) (p : Pos), okR (r_p11w7 w N t t1 u0_0 u0_2 u0_4 u0_6 u0_8 u0_10 u0_12 u0_14 u0_16 v0_0 v0_2 v0_3 v0_4 v0_5 v0_6 v0_7 n0_0 n0_1 n0_2 n0_3 n0_4 n0_5 n0_6 uu p)) ∧
  (∀ (w : World) (N t t1 u0_0 u0_2 u0_4 u0_6 u0_8 u0_10 u0_12 u0_14 u0_16 : Nat) (v0_0 v0_2 v0_3 v0_5 v0_6 v0_7 : Value) (n0_0 n0_1 n0_2 n0_3 n0_4 n0_5 n0_6 n0_7 : Obj) (uu : Nat) (p : Pos), okR (r_p11n w N t t1 u0_0 u0_2 u0_4 u0_6 u0_8 u0_10 u0_12 u0_14 u0_16 v0_0 v0_2 v0_3 v0_5 v0_6 v0_7 n0_0 n0_1 n0_2 n0_3 n0_4 n0_5 n0_6 n0_7 uu p)) ∧
  (∀ (w : World) (N t t1 u0_0 u0_2 u0_4 u0_6 u0_8 u0_10 u0_12 u0_14 u0_16 : Nat) (v0_0 v0_2 v0_3 v0_5 v0_6 v0_7 v1_0 : Value) (n0_0 n0_1 n0_2 n0_3 n0_4 n0_5 n0_6 : Obj) (uu : Nat) (p : Pos), okR (r_p11h w N t t1 u0_0 u0_2 u0_4 u0_6 u0_8 u0_10 u0_12 u0_14 u0_16 v0_0 v0_2 v0_3 v0_5 v0_6 v0_7 v1_0 n0_0 n0_1 n0_2 n0_3 n0_4 n0_5 n0_6 uu p)) ∧
  (∀ (w : World) (N t t1 u0_0 u0_2 u0_4 u0_6 u0_8 u0_10 u0_12 u0_14 u0_16 : Nat) (v0_0 v0_2 v0_3 v0_5 v0_6 v0_7 v1_0 v1_1 : Value) (n0_0 n0_1 n0_2 n0_3 n0_4 n0_5 n0_6 : Obj) (uu : Nat) (p : Pos), okR (r_p11b w N t t1 u0_0 u0_2 u0_4 u0_6 u0_8 u0_10 u0_12 u0_14 u0_16 v0_0 v0_2 v0_3 v0_5 v0_6 v0_7 v1_0 v1_1 n0_0 n0_1 n0_2 n0_3 n0_4 n0_5 n0_6 uu p)) :=
  ⟨fun _ _ _ _ _ _ _ _ _ _ _ _ _ _ _ _ _ _ _ _ _ _ => by kernel_rfl,
  fun _ _ _ _ _ _ _ _ _ _ _ _ _ _ _ _ _ _ _ _ => by kernel_rfl,
  fun _ _ _ _ _ _ _ _ _ _ _ _ _ _ _ _ _ _ _ _ _ _ => by kernel_rfl,
  fun _ _ _ _ _ _ _ _ _ _ _ _ _ _ _ _ _ _ _ _ _ => by kernel_rfl,
  fun _ _ _ _ _ _ _ _ _ _ _ _ _ _ _ _ _ _ _ _ _ => by kernel_rfl,
  fun _ _ _ _ _ _ _ _ _ _ _ _ _ _ _ _ _ _ _ _ _ _ => by kernel_rfl,
  fun _ _ _ _ _ _ _ _ _ _ _ _ _ _ _ _ _ _ _ _ _ _ _ _ => by kernel_rfl,
  fun _ _ _ _ _ _ _ _ _ _ _ _ _ _ _ _ _ _ _ _ _ _ _ _ _ _ => by kernel_rfl,
  fun _ _ _ _ _ _ _ _ _ _ _ _ _ _ _ _ _ _ _ _ _ _ _ _ _ _ _ => by kernel_rfl,
  fun _ _ _ _ _ _ _ _ _ _ _ _ _ _ _ _ _ _ _ _ _ _ _ _ _ _ _ _ _ => by kernel_rfl,
  fun _ _ _ _ _ _ _ _ _ _ _ _ _ _ _ _ _ _ _ _ _ _ _ _ _ _ _ _ _ => by kernel_rfl,
  fun _ _ _ _ _ _ _ _ _ _ _ _ _ _ _ _ _ _ _ _ _ _ _ _ _ _ _ _ _ => by kernel_rfl,
  fun _ _ _ _ _ _ _ _ _ _ _ _ _ _ _ _ _ _ _ _ _ _ _ _ _ _ _ _ _ _ => by kernel_rfl⟩
theorem p10o {w : World} {s : Shared} {p : Pos} {N t u0_0 u0_2 u0_4 u0_6 u0_8 u0_10 u0_12 u0_14 : Nat} {v0_0 v0_2 v0_3 v0_4 v0_5 v0_6 v0_7 v1_32 v2_0 : Value} {uu : Nat} (hN : s.heap.objs.size = (N + 1090)) (ht : s.toks = t + 1837) (hg : s.gens = #[]) (hk : AKT s.heap (kt2 w.params uu)) (h0 : Hs s 1095 (loc8 w.params (tk u0_0) v0_0 (tk u0_2) (.ref 1107) (tk u0_4) v0_2 (tk u0_6) v0_3 (tk u0_8) v0_4 (tk u0_10) v0_5 (tk u0_12) v0_6 (tk u0_14) v0_7)) (h1 : Hs s 1106 (sh1106 w.params uu v1_32)) (h2 : Hs s 1305 (ls #[v2_0] 1)) :
  wp (model PP w) Γf (execs (lawSl 10 1) lawEnv) (fun g _ s' => g = .next ∧ After s s' [1095, 1106, 1305] (N + 1090) 1 (tk (t + 2)) ∧ Hs s' 1095 (loc9 w.params (tk u0_0) v0_0 (tk u0_2) (.ref 1107) (tk u0_4) v0_2 (tk u0_6) v0_3 (tk u0_8) v0_4 (tk u0_10) v0_5 (tk u0_12) v0_6 (tk u0_14) v0_7 (tk (t + 1)) (.bool true)) ∧ Hs s' 1106 (sh1106 w.params uu v1_32) ∧ Hs s' 1305 (ls #[v2_0] 1)) (fun _ _ _ => False) p s := by
  have hkb := kb_of w.params uu (l := [1095, 1106, 1305]) (by decide)
  exact Sem.wp_mono _ _ _ (fun g _ s' h => ⟨h.1, h.2.1, h.2.2 _ m0, h.2.2 _ m1, h.2.2 _ m2⟩) (fun _ _ _ h => h) _ _ (tri (cs_R10.1 w N t u0_0 u0_2 u0_4 u0_6 u0_8 u0_10 u0_12 u0_14 v0_0 v0_2 v0_3 v0_4 v0_5 v0_6 v0_7 v1_32 v2_0 uu p) (by kernel_rfl) hkb (by decide) hN ht hg hk (mc h0 <| mc h1 <| mc h2 <| mn) trivial (fa_nil))
theorem p10a {w : World} {s : Shared} {p : Pos} {N t u0_0 u0_2 u0_4 u0_6 u0_8 u0_10 u0_12 u0_14 : Nat} {v0_0 v0_2 v0_3 v0_4 v0_5 v0_6 v1_32 : Value} {uu : Nat} (hN : s.heap.objs.size = (N + 1090)) (ht : s.toks = t + 1837) (hg : s.gens = #[]) (hk : AKT s.heap (kt2 w.params uu)) (h0 : Hs s 1095 (loc8 w.params (tk u0_0) v0_0 (tk u0_2) (.ref 1107) (tk u0_4) v0_2 (tk u0_6) v0_3 (tk u0_8) v0_4 (tk u0_10) v0_5 (tk u0_12) v0_6 (tk u0_14) (.bool true))) (h1 : Hs s 1106 (sh1106 w.params uu v1_32)) (h2 : Hs s 1305 (ls #[] 0)) :
  wp (model PP w) Γf (execs (lawSl 10 1) lawEnv) (fun g _ s' => g = .next ∧ After s s' [1095, 1106, 1305] (N + 1090) 1 (tk (t + 2)) ∧ Hs s' 1095 (loc9 w.params (tk u0_0) v0_0 (tk u0_2) (.ref 1107) (tk u0_4) v0_2 (tk u0_6) v0_3 (tk u0_8) v0_4 (tk u0_10) v0_5 (tk u0_12) v0_6 (tk u0_14) (.bool true) (tk (t + 1)) (.bool true)) ∧ Hs s' 1106 (sh1106 w.params uu v1_32) ∧ Hs s' 1305 (ls #[] 0)) (fun _ _ _ => False) p s := by
  have hkb := kb_of w.params uu (l := [1095, 1106, 1305]) (by decide)
  exact Sem.wp_mono _ _ _ (fun g _ s' h => ⟨h.1, h.2.1, h.2.2 _ m0, h.2.2 _ m1, h.2.2 _ m2⟩) (fun _ _ _ h => h) _ _ (tri (cs_R10.2.1 w N t u0_0 u0_2 u0_4 u0_6 u0_8 u0_10 u0_12 u0_14 v0_0 v0_2 v0_3 v0_4 v0_5 v0_6 v1_32 uu p) (by kernel_rfl) hkb (by decide) hN ht hg hk (mc h0 <| mc h1 <| mc h2 <| mn) trivial (fa_nil))
theorem p10p {w : World} {s : Shared} {p : Pos} {N t u0_0 u0_2 u0_4 u0_6 u0_8 u0_10 u0_12 u0_14 u3_3 : Nat} {v0_0 v0_2 v0_3 v0_4 v0_5 v0_6 v1_32 v3_2 : Value} {uu : Nat} (hN : s.heap.objs.size = (N + 1090)) (ht : s.toks = t + 1837) (hg : s.gens = #[]) (hk : AKT s.heap (kt2 w.params uu)) (h0 : Hs s 1095 (loc8 w.params (tk u0_0) v0_0 (tk u0_2) (.ref 1107) (tk u0_4) v0_2 (tk u0_6) v0_3 (tk u0_8) v0_4 (tk u0_10) v0_5 (tk u0_12) v0_6 (tk u0_14) (.bool false))) (h1 : Hs s 1106 (sh1106 w.params uu v1_32)) (h2 : Hs s 1305 (ls #[] 0)) (h3 : Hs s 1260 (sh1260 w.params uu (iv 2 (tk u3_3)) v3_2)) :
  wp (model PP w) Γf (execs (lawSl 10 1) lawEnv) (fun g _ s' => g = .next ∧ After s s' [1095, 1106, 1305, 1260] (N + 1090) 1 (tk (t + 6)) ∧ Hs s' 1095 (loc9 w.params (tk u0_0) v0_0 (tk u0_2) (.ref 1107) (tk u0_4) v0_2 (tk u0_6) v0_3 (tk u0_8) v0_4 (tk u0_10) v0_5 (tk u0_12) v0_6 (tk u0_14) (.bool false) (tk (t + 5)) (.bool true)) ∧ Hs s' 1106 (sh1106 w.params uu v1_32) ∧ Hs s' 1305 (ls #[] 0) ∧ Hs s' 1260 (sh1260 w.params uu (iv 2 (tk u3_3)) v3_2)) (fun _ _ _ => False) p s := by
  have hkb := kb_of w.params uu (l := [1095, 1106, 1305, 1260]) (by decide)
  exact Sem.wp_mono _ _ _ (fun g _ s' h => ⟨h.1, h.2.1, h.2.2 _ m0, h.2.2 _ m1, h.2.2 _ m2, h.2.2 _ m3⟩) (fun _ _ _ h => h) _ _ (tri (cs_R10.2.2.1 w N t u0_0 u0_2 u0_4 u0_6 u0_8 u0_10 u0_12 u0_14 u3_3 v0_0 v0_2 v0_3 v0_4 v0_5 v0_6 v1_32 v3_2 uu p) (by kernel_rfl) hkb (by decide) hN ht hg hk (mc h0 <| mc h1 <| mc h2 <| mc h3 <| mn) trivial (fa_nil))
theorem p10d {w : World} {s : Shared} {p : Pos} {N t u0_0 u0_2 u0_4 u0_6 u0_8 u0_10 u0_12 u0_13 u0_14 u3_3 : Nat} {v0_0 v0_2 v0_3 v0_4 v1_32 v3_2 : Value} {uu : Nat} (hN : s.heap.objs.size = (N + 1090)) (ht : s.toks = t + 1837) (hg : s.gens = #[]) (hk : AKT s.heap (kt2 w.params uu)) (h0 : Hs s 1095 (loc8 w.params (tk u0_0) v0_0 (tk u0_2) (.ref 1107) (tk u0_4) v0_2 (tk u0_6) v0_3 (tk u0_8) v0_4 (tk u0_10) (.ref 1187) (tk u0_12) (iv 1 (tk u0_13)) (tk u0_14) (.bool false))) (h1 : Hs s 1106 (sh1106 w.params uu v1_32)) (h2 : Hs s 1305 (ls #[] 0)) (h3 : Hs s 1260 (sh1260 w.params uu (iv 0 (tk u3_3)) v3_2)) (h4 : Hs s 1186 (sh1186 w.params uu (.bool false))) :
  wp (model PP w) Γf (execs (lawSl 10 1) lawEnv) (fun g _ s' => g = .next ∧ After s s' [1095, 1106, 1305, 1260, 1186] (N + 1090) 1 (tk (t + 8)) ∧ Hs s' 1095 (loc9 w.params (tk u0_0) v0_0 (tk u0_2) (.ref 1107) (tk u0_4) v0_2 (tk u0_6) v0_3 (tk u0_8) v0_4 (tk u0_10) (.ref 1187) (tk u0_12) (iv 1 (tk u0_13)) (tk u0_14) (.bool false) (tk (t + 7)) (.bool true)) ∧ Hs s' 1106 (sh1106 w.params uu v1_32) ∧ Hs s' 1305 (ls #[] 0) ∧ Hs s' 1260 (sh1260 w.params uu (iv 0 (tk u3_3)) v3_2) ∧ Hs s' 1186 (sh1186 w.params uu (.bool false))) (fun _ _ _ => False) p s := by
  have hkb := kb_of w.params uu (l := [1095, 1106, 1305, 1260, 1186]) (by decide)
  exact Sem.wp_mono _ _ _ (fun g _ s' h => ⟨h.1, h.2.1, h.2.2 _ m0, h.2.2 _ m1, h.2.2 _ m2, h.2.2 _ m3, h.2.2 _ m4⟩) (fun _ _ _ h => h) _ _ (tri (cs_R10.2.2.2.1 w N t u0_0 u0_2 u0_4 u0_6 u0_8 u0_10 u0_12 u0_13 u0_14 u3_3 v0_0 v0_2 v0_3 v0_4 v1_32 v3_2 uu p) (by kernel_rfl) hkb (by decide) hN ht hg hk (mc h0 <| mc h1 <| mc h2 <| mc h3 <| mc h4 <| mn) trivial (fa_nil))
theorem p10g {w : World} {s : Shared} {p : Pos} {N t u0_0 u0_2 u0_4 u0_6 u0_8 u0_10 u0_12 u0_13 u0_14 u3_3 : Nat} {v0_0 v0_2 v0_3 v0_4 v1_32 v3_2 : Value} {uu : Nat} (hN : s.heap.objs.size = (N + 1090)) (ht : s.toks = t + 1837) (hg : s.gens = #[]) (hk : AKT s.heap (kt2 w.params uu)) (h0 : Hs s 1095 (loc8 w.params (tk u0_0) v0_0 (tk u0_2) (.ref 1107) (tk u0_4) v0_2 (tk u0_6) v0_3 (tk u0_8) v0_4 (tk u0_10) (.ref 1187) (tk u0_12) (iv 1 (tk u0_13)) (tk u0_14) (.bool false))) (h1 : Hs s 1106 (sh1106 w.params uu v1_32)) (h2 : Hs s 1305 (ls #[] 0)) (h3 : Hs s 1260 (sh1260 w.params uu (iv 0 (tk u3_3)) v3_2)) (h4 : Hs s 1186 (sh1186 w.params uu (.bool true))) :
  wp (model PP w) Γf (execs (lawSl 10 1) lawEnv) (fun g _ s' => g = .next ∧ After s s' [1095, 1106, 1305, 1260, 1186] (N + 1090) 1 (tk (t + 8)) ∧ Hs s' 1095 (loc9 w.params (tk u0_0) v0_0 (tk u0_2) (.ref 1107) (tk u0_4) v0_2 (tk u0_6) v0_3 (tk u0_8) v0_4 (tk u0_10) (.ref 1187) (tk u0_12) (iv 1 (tk u0_13)) (tk u0_14) (.bool false) (tk (t + 7)) (.bool false)) ∧ Hs s' 1106 (sh1106 w.params uu v1_32) ∧ Hs s' 1305 (ls #[] 0) ∧ Hs s' 1260 (sh1260 w.params uu (iv 0 (tk u3_3)) v3_2) ∧ Hs s' 1186 (sh1186 w.params uu (.bool true))) (fun _ _ _ => False) p s := by
  have hkb := kb_of w.params uu (l := [1095, 1106, 1305, 1260, 1186]) (by decide)
  exact Sem.wp_mono _ _ _ (fun g _ s' h => ⟨h.1, h.2.1, h.2.2 _ m0, h.2.2 _ m1, h.2.2 _ m2, h.2.2 _ m3, h.2.2 _ m4⟩) (fun _ _ _ h => h) _ _ (tri (cs_R10.2.2.2.2.1 w N t u0_0 u0_2 u0_4 u0_6 u0_8 u0_10 u0_12 u0_13 u0_14 u3_3 v0_0 v0_2 v0_3 v0_4 v1_32 v3_2 uu p) (by kernel_rfl) hkb (by decide) hN ht hg hk (mc h0 <| mc h1 <| mc h2 <| mc h3 <| mc h4 <| mn) trivial (fa_nil))
theorem p10n {w : World} {s : Shared} {p : Pos} {N t u0_0 u0_2 u0_4 u0_6 u0_8 u0_10 u0_12 u0_13 u0_14 u3_3 : Nat} {v0_0 v0_2 v0_3 v0_4 v0_5 v1_32 v3_2 : Value} {uu : Nat} (hN : s.heap.objs.size = (N + 1090)) (ht : s.toks = t + 1837) (hg : s.gens = #[]) (hk : AKT s.heap (kt2 w.params uu)) (h0 : Hs s 1095 (loc8 w.params (tk u0_0) v0_0 (tk u0_2) (.ref 1107) (tk u0_4) v0_2 (tk u0_6) v0_3 (tk u0_8) v0_4 (tk u0_10) v0_5 (tk u0_12) (iv 0 (tk u0_13)) (tk u0_14) (.bool false))) (h1 : Hs s 1106 (sh1106 w.params uu v1_32)) (h2 : Hs s 1305 (ls #[] 0)) (h3 : Hs s 1260 (sh1260 w.params uu (iv 0 (tk u3_3)) v3_2)) :
  wp (model PP w) Γf (execs (lawSl 10 1) lawEnv) (fun g _ s' => g = .next ∧ After s s' [1095, 1106, 1305, 1260] (N + 1090) 1 (tk (t + 7)) ∧ Hs s' 1095 (loc9 w.params (tk u0_0) v0_0 (tk u0_2) (.ref 1107) (tk u0_4) v0_2 (tk u0_6) v0_3 (tk u0_8) v0_4 (tk u0_10) v0_5 (tk u0_12) (iv 0 (tk u0_13)) (tk u0_14) (.bool false) (tk (t + 6)) (.bool false)) ∧ Hs s' 1106 (sh1106 w.params uu v1_32) ∧ Hs s' 1305 (ls #[] 0) ∧ Hs s' 1260 (sh1260 w.params uu (iv 0 (tk u3_3)) v3_2)) (fun _ _ _ => False) p s := by
  have hkb := kb_of w.params uu (l := [1095, 1106, 1305, 1260]) (by decide)
  exact Sem.wp_mono _ _ _ (fun g _ s' h => ⟨h.1, h.2.1, h.2.2 _ m0, h.2.2 _ m1, h.2.2 _ m2, h.2.2 _ m3⟩) (fun _ _ _ h => h) _ _ (tri (cs_R10.2.2.2.2.2.1 w N t u0_0 u0_2 u0_4 u0_6 u0_8 u0_10 u0_12 u0_13 u0_14 u3_3 v0_0 v0_2 v0_3 v0_4 v0_5 v1_32 v3_2 uu p) (by kernel_rfl) hkb (by decide) hN ht hg hk (mc h0 <| mc h1 <| mc h2 <| mc h3 <| mn) trivial (fa_nil))
theorem p11w2 {w : World} {s : Shared} {p : Pos} {N t t1 u0_0 u0_2 u0_4 u0_6 u0_8 u0_10 u0_12 u0_14 u0_16 : Nat} {v0_0 v0_2 v0_3 v0_4 v0_5 v0_6 v0_7 : Value} {n0_0 n0_1 : Obj} {uu : Nat} (hN : s.heap.objs.size = (N + 1090)) (ht : s.toks = t + 1837) (hg : s.gens = #[]) (hk : AKT s.heap (kt2 w.params uu)) (h0 : Hs s 1095 (loc9 w.params (tk u0_0) v0_0 (tk u0_2) (.ref 1107) (tk u0_4) v0_2 (tk u0_6) v0_3 (tk u0_8) v0_4 (tk u0_10) v0_5 (tk u0_12) v0_6 (tk u0_14) v0_7 (tk u0_16) (.bool true))) (hs : segOK t [(0, t1)]) {q0 : List (Addr × Obj)} {w0 : Nat → List Obj} (c0 : CallOK [lawCode] w (kt2 w.params uu) (.call (.ref 459) ⟨[(.ref 1107)], []⟩) (tk (t + 0)) (tk t1) [] q0 (.bool false) [] w0) (e0 : w0 ((N + 1090) + 0) = [n0_0, n0_1]) (g0 : ∀ x ∈ q0, s.heap.get? x.1 = some x.2 ∧ x.1 ∉ [1095]) :
  wp (model PP w) Γf (execs (lawSl 11 1) lawEnv) (fun g _ s' => g = .next ∧ After s s' [1095] (N + 1090) 2 (tk (t1 + 0)) ∧ Hs s' 1095 (loc9 w.params (tk u0_0) v0_0 (tk u0_2) (.ref 1107) (tk u0_4) v0_2 (tk u0_6) v0_3 (tk u0_8) v0_4 (tk u0_10) v0_5 (tk u0_12) v0_6 (tk u0_14) v0_7 (tk u0_16) (.bool true))) (fun _ _ _ => False) p s := by
  have hkb := kb_of w.params uu (l := [1095]) (by decide)
  exact Sem.wp_mono _ _ _ (fun g _ s' h => ⟨h.1, h.2.1, h.2.2 _ m0⟩) (fun _ _ _ h => h) _ _ (tri (cs_R10.2.2.2.2.2.2.1 w N t t1 u0_0 u0_2 u0_4 u0_6 u0_8 u0_10 u0_12 u0_14 u0_16 v0_0 v0_2 v0_3 v0_4 v0_5 v0_6 v0_7 n0_0 n0_1 uu p) (by kernel_rfl) hkb (by decide) hN ht hg hk (mc h0 <| mn) hs (fa_cons (fun RX => spOK_of rfl rfl (sp_base hkb hk) rfl rfl c0 e0 rfl rfl rfl rfl (sp_keep g0)) <| fa_nil))
theorem p11w4 {w : World} {s : Shared} {p : Pos} {N t t1 u0_0 u0_2 u0_4 u0_6 u0_8 u0_10 u0_12 u0_14 u0_16 : Nat} {v0_0 v0_2 v0_3 v0_4 v0_5 v0_6 v0_7 : Value} {n0_0 n0_1 n0_2 n0_3 : Obj} {uu : Nat} (hN : s.heap.objs.size = (N + 1090)) (ht : s.toks = t + 1837) (hg : s.gens = #[]) (hk : AKT s.heap (kt2 w.params uu)) (h0 : Hs s 1095 (loc9 w.params (tk u0_0) v0_0 (tk u0_2) (.ref 1107) (tk u0_4) v0_2 (tk u0_6) v0_3 (tk u0_8) v0_4 (tk u0_10) v0_5 (tk u0_12) v0_6 (tk u0_14) v0_7 (tk u0_16) (.bool true))) (hs : segOK t [(0, t1)]) {q0 : List (Addr × Obj)} {w0 : Nat → List Obj} (c0 : CallOK [lawCode] w (kt2 w.params uu) (.call (.ref 459) ⟨[(.ref 1107)], []⟩) (tk (t + 0)) (tk t1) [] q0 (.bool false) [] w0) (e0 : w0 ((N + 1090) + 0) = [n0_0, n0_1, n0_2, n0_3]) (g0 : ∀ x ∈ q0, s.heap.get? x.1 = some x.2 ∧ x.1 ∉ [1095]) :
  wp (model PP w) Γf (execs (lawSl 11 1) lawEnv) (fun g _ s' => g = .next ∧ After s s' [1095] (N + 1090) 4 (tk (t1 + 0)) ∧ Hs s' 1095 (loc9 w.params (tk u0_0) v0_0 (tk u0_2) (.ref 1107) (tk u0_4) v0_2 (tk u0_6) v0_3 (tk u0_8) v0_4 (tk u0_10) v0_5 (tk u0_12) v0_6 (tk u0_14) v0_7 (tk u0_16) (.bool true))) (fun _ _ _ => False) p s := by
  have hkb := kb_of w.params uu (l := [1095]) (by decide)
  exact Sem.wp_mono _ _ _ (fun g _ s' h => ⟨h.1, h.2.1, h.2.2 _ m0⟩) (fun _ _ _ h => h) _ _ (tri (cs_R10.2.2.2.2.2.2.2.1 w N t t1 u0_0 u0_2 u0_4 u0_6 u0_8 u0_10 u0_12 u0_14 u0_16 v0_0 v0_2 v0_3 v0_4 v0_5 v0_6 v0_7 n0_0 n0_1 n0_2 n0_3 uu p) (by kernel_rfl) hkb (by decide) hN ht hg hk (mc h0 <| mn) hs (fa_cons (fun RX => spOK_of rfl rfl (sp_base hkb hk) rfl rfl c0 e0 rfl rfl rfl rfl (sp_keep g0)) <| fa_nil))
theorem p11w5 {w : World} {s : Shared} {p : Pos} {N t t1 u0_0 u0_2 u0_4 u0_6 u0_8 u0_10 u0_12 u0_14 u0_16 : Nat} {v0_0 v0_2 v0_3 v0_4 v0_5 v0_6 v0_7 : Value} {n0_0 n0_1 n0_2 n0_3 n0_4 : Obj} {uu : Nat} (hN : s.heap.objs.size = (N + 1090)) (ht : s.toks = t + 1837) (hg : s.gens = #[]) (hk : AKT s.heap (kt2 w.params uu)) (h0 : Hs s 1095 (loc9 w.params (tk u0_0) v0_0 (tk u0_2) (.ref 1107) (tk u0_4) v0_2 (tk u0_6) v0_3 (tk u0_8) v0_4 (tk u0_10) v0_5 (tk u0_12) v0_6 (tk u0_14) v0_7 (tk u0_16) (.bool true))) (hs : segOK t [(0, t1)]) {q0 : List (Addr × Obj)} {w0 : Nat → List Obj} (c0 : CallOK [lawCode] w (kt2 w.params uu) (.call (.ref 459) ⟨[(.ref 1107)], []⟩) (tk (t + 0)) (tk t1) [] q0 (.bool false) [] w0) (e0 : w0 ((N + 1090) + 0) = [n0_0, n0_1, n0_2, n0_3, n0_4]) (g0 : ∀ x ∈ q0, s.heap.get? x.1 = some x.2 ∧ x.1 ∉ [1095]) :
  wp (model PP w) Γf (execs (lawSl 11 1) lawEnv) (fun g _ s' => g = .next ∧ After s s' [1095] (N + 1090) 5 (tk (t1 + 0)) ∧ Hs s' 1095 (loc9 w.params (tk u0_0) v0_0 (tk u0_2) (.ref 1107) (tk u0_4) v0_2 (tk u0_6) v0_3 (tk u0_8) v0_4 (tk u0_10) v0_5 (tk u0_12) v0_6 (tk u0_14) v0_7 (tk u0_16) (.bool true))) (fun _ _ _ => False) p s := by
  have hkb := kb_of w.params uu (l := [1095]) (by decide)
  exact Sem.wp_mono _ _ _ (fun g _ s' h => ⟨h.1, h.2.1, h.2.2 _ m0⟩) (fun _ _ _ h => h) _ _ (tri (cs_R10.2.2.2.2.2.2.2.2.1 w N t t1 u0_0 u0_2 u0_4 u0_6 u0_8 u0_10 u0_12 u0_14 u0_16 v0_0 v0_2 v0_3 v0_4 v0_5 v0_6 v0_7 n0_0 n0_1 n0_2 n0_3 n0_4 uu p) (by kernel_rfl) hkb (by decide) hN ht hg hk (mc h0 <| mn) hs (fa_cons (fun RX => spOK_of rfl rfl (sp_base hkb hk) rfl rfl c0 e0 rfl rfl rfl rfl (sp_keep g0)) <| fa_nil))
theorem p11w7 {w : World} {s : Shared} {p : Pos} {N t t1 u0_0 u0_2 u0_4 u0_6 u0_8 u0_10 u0_12 u0_14 u0_16 : Nat} {v0_0 v0_2 v0_3 v0_4 v0_5 v0_6 v0_7 : Value} {n0_0 n0_1 n0_2 n0_3 n0_4 n0_5 n0_6 : Obj} {uu : Nat} (hN : s.heap.objs.size = (N + 1090)) (ht : s.toks = t + 1837) (hg : s.gens = #[]) (hk : AKT s.heap (kt2 w.params uu)) (h0 : Hs s 1095 (loc9 w.params (tk u0_0) v0_0 (tk u0_2) (.ref 1107) (tk u0_4) v0_2 (tk u0_6) v0_3 (tk u0_8) v0_4 (tk u0_10) v0_5 (tk u0_12) v0_6 (tk u0_14) v0_7 (tk u0_16) (.bool true))) (hs : segOK t [(0, t1)]) {q0 : List (Addr × Obj)} {w0 : Nat → List Obj} (c0 : CallOK [lawCode] w (kt2 w.params uu) (.call (.ref 459) ⟨[(.ref 1107)], []⟩) (tk (t + 0)) (tk t1) [] q0 (.bool false) [] w0) (e0 : w0 ((N + 1090) + 0) = [n0_0, n0_1, n0_2, n0_3, n0_4, n0_5, n0_6]) (g0 : ∀ x ∈ q0, s.heap.get? x.1 = some x.2 ∧ x.1 ∉ [1095]) :
  wp (model PP w) Γf (execs (lawSl 11 1) lawEnv) (fun g _ s' => g = .next ∧ After s s' [1095] (N + 1090) 7 (tk (t1 + 0)) ∧ Hs s' 1095 (loc9 w.params (tk u0_0) v0_0 (tk u0_2) (.ref 1107) (tk u0_4) v0_2 (tk u0_6) v0_3 (tk u0_8) v0_4 (tk u0_10) v0_5 (tk u0_12) v0_6 (tk u0_14) v0_7 (tk u0_16) (.bool true))) (fun _ _ _ => False) p s := by
  have hkb := kb_of w.params uu (l := [1095]) (by decide)
  exact Sem.wp_mono _ _ _ (fun g _ s' h => ⟨h.1, h.2.1, h.2.2 _ m0⟩) (fun _ _ _ h => h) _ _ (tri (cs_R10.2.2.2.2.2.2.2.2.2.1 w N t t1 u0_0 u0_2 u0_4 u0_6 u0_8 u0_10 u0_12 u0_14 u0_16 v0_0 v0_2 v0_3 v0_4 v0_5 v0_6 v0_7 n0_0 n0_1 n0_2 n0_3 n0_4 n0_5 n0_6 uu p) (by kernel_rfl) hkb (by decide) hN ht hg hk (mc h0 <| mn) hs (fa_cons (fun RX => spOK_of rfl rfl (sp_base hkb hk) rfl rfl c0 e0 rfl rfl rfl rfl (sp_keep g0)) <| fa_nil))
theorem p11n {w : World} {s : Shared} {p : Pos} {N t t1 u0_0 u0_2 u0_4 u0_6 u0_8 u0_10 u0_12 u0_14 u0_16 : Nat} {v0_0 v0_2 v0_3 v0_5 v0_6 v0_7 : Value} {n0_0 n0_1 n0_2 n0_3 n0_4 n0_5 n0_6 n0_7 : Obj} {uu : Nat} (hN : s.heap.objs.size = (N + 1090)) (ht : s.toks = t + 1837) (hg : s.gens = #[]) (hk : AKT s.heap (kt2 w.params uu)) (h0 : Hs s 1095 (loc9 w.params (tk u0_0) v0_0 (tk u0_2) (.ref 1107) (tk u0_4) v0_2 (tk u0_6) v0_3 (tk u0_8) (.ref 1356) (tk u0_10) v0_5 (tk u0_12) v0_6 (tk u0_14) v0_7 (tk u0_16) (.bool false))) (h1 : Hs s 1356 (ls #[] 0)) (hs : segOK t [(0, t1)]) {q0 : List (Addr × Obj)} {w0 : Nat → List Obj} (c0 : CallOK [lawCode] w (kt2 w.params uu) (.call (.ref 459) ⟨[(.ref 1107)], []⟩) (tk (t + 0)) (tk t1) [] q0 (.bool true) [] w0) (e0 : w0 ((N + 1090) + 0) = [n0_0, n0_1, n0_2, n0_3, n0_4, n0_5, n0_6, n0_7]) (g0 : ∀ x ∈ q0, s.heap.get? x.1 = some x.2 ∧ x.1 ∉ [1095, 1356]) :
  wp (model PP w) Γf (execs (lawSl 11 1) lawEnv) (fun g _ s' => g = .next ∧ After s s' [1095, 1356] (N + 1090) 9 (tk (t1 + 0)) ∧ Hs s' 1095 (loc9 w.params (tk u0_0) v0_0 (tk u0_2) (.ref 1107) (tk u0_4) v0_2 (tk u0_6) v0_3 (tk u0_8) (.ref 1356) (tk u0_10) v0_5 (tk u0_12) v0_6 (tk u0_14) v0_7 (tk u0_16) (.bool false)) ∧ Hs s' 1356 (ls #[] 0)) (fun _ _ _ => False) p s := by
  have hkb := kb_of w.params uu (l := [1095, 1356]) (by decide)
  exact Sem.wp_mono _ _ _ (fun g _ s' h => ⟨h.1, h.2.1, h.2.2 _ m0, h.2.2 _ m1⟩) (fun _ _ _ h => h) _ _ (tri (cs_R10.2.2.2.2.2.2.2.2.2.2.1 w N t t1 u0_0 u0_2 u0_4 u0_6 u0_8 u0_10 u0_12 u0_14 u0_16 v0_0 v0_2 v0_3 v0_5 v0_6 v0_7 n0_0 n0_1 n0_2 n0_3 n0_4 n0_5 n0_6 n0_7 uu p) (by kernel_rfl) hkb (by decide) hN ht hg hk (mc h0 <| mc h1 <| mn) hs (fa_cons (fun RX => spOK_of rfl rfl (sp_base hkb hk) rfl rfl c0 e0 rfl rfl rfl rfl (sp_keep g0)) <| fa_nil))
theorem p11h {w : World} {s : Shared} {p : Pos} {N t t1 u0_0 u0_2 u0_4 u0_6 u0_8 u0_10 u0_12 u0_14 u0_16 : Nat} {v0_0 v0_2 v0_3 v0_5 v0_6 v0_7 v1_0 : Value} {n0_0 n0_1 n0_2 n0_3 n0_4 n0_5 n0_6 : Obj} {uu : Nat} (hN : s.heap.objs.size = (N + 1090)) (ht : s.toks = t + 1837) (hg : s.gens = #[]) (hk : AKT s.heap (kt2 w.params uu)) (h0 : Hs s 1095 (loc9 w.params (tk u0_0) v0_0 (tk u0_2) (.ref 1107) (tk u0_4) v0_2 (tk u0_6) v0_3 (tk u0_8) (.ref 1356) (tk u0_10) v0_5 (tk u0_12) v0_6 (tk u0_14) v0_7 (tk u0_16) (.bool false))) (h1 : Hs s 1356 (ls #[v1_0] 1)) (hs : segOK t [(0, t1)]) {q0 : List (Addr × Obj)} {w0 : Nat → List Obj} (c0 : CallOK [lawCode] w (kt2 w.params uu) (.call (.ref 459) ⟨[(.ref 1107)], []⟩) (tk (t + 0)) (tk t1) [] q0 (.bool false) [] w0) (e0 : w0 ((N + 1090) + 0) = [n0_0, n0_1, n0_2, n0_3, n0_4, n0_5, n0_6]) (g0 : ∀ x ∈ q0, s.heap.get? x.1 = some x.2 ∧ x.1 ∉ [1095, 1356]) :
  wp (model PP w) Γf (execs (lawSl 11 1) lawEnv) (fun g _ s' => g = .next ∧ After s s' [1095, 1356] (N + 1090) 8 (tk (t1 + 0)) ∧ Hs s' 1095 (loc9 w.params (tk u0_0) v0_0 (tk u0_2) (.ref 1107) (tk u0_4) v0_2 (tk u0_6) v0_3 (tk u0_8) (.ref 1356) (tk u0_10) v0_5 (tk u0_12) v0_6 (tk u0_14) v0_7 (tk u0_16) (.bool false)) ∧ Hs s' 1356 (ls #[v1_0] 1)) (fun _ _ _ => False) p s := by
  have hkb := kb_of w.params uu (l := [1095, 1356]) (by decide)
  exact Sem.wp_mono _ _ _ (fun g _ s' h => ⟨h.1, h.2.1, h.2.2 _ m0, h.2.2 _ m1⟩) (fun _ _ _ h => h) _ _ (tri (cs_R10.2.2.2.2.2.2.2.2.2.2.2.1 w N t t1 u0_0 u0_2 u0_4 u0_6 u0_8 u0_10 u0_12 u0_14 u0_16 v0_0 v0_2 v0_3 v0_5 v0_6 v0_7 v1_0 n0_0 n0_1 n0_2 n0_3 n0_4 n0_5 n0_6 uu p) (by kernel_rfl) hkb (by decide) hN ht hg hk (mc h0 <| mc h1 <| mn) hs (fa_cons (fun RX => spOK_of rfl rfl (sp_base hkb hk) rfl rfl c0 e0 rfl rfl rfl rfl (sp_keep g0)) <| fa_nil))
theorem p11b {w : World} {s : Shared} {p : Pos} {N t t1 u0_0 u0_2 u0_4 u0_6 u0_8 u0_10 u0_12 u0_14 u0_16 : Nat} {v0_0 v0_2 v0_3 v0_5 v0_6 v0_7 v1_0 v1_1 : Value} {n0_0 n0_1 n0_2 n0_3 n0_4 n0_5 n0_6 : Obj} {uu : Nat} (hN : s.heap.objs.size = (N + 1090)) (ht : s.toks = t + 1837) (hg : s.gens = #[]) (hk : AKT s.heap (kt2 w.params uu)) (h0 : Hs s 1095 (loc9 w.params (tk u0_0) v0_0 (tk u0_2) (.ref 1107) (tk u0_4) v0_2 (tk u0_6) v0_3 (tk u0_8) (.ref 1356) (tk u0_10) v0_5 (tk u0_12) v0_6 (tk u0_14) v0_7 (tk u0_16) (.bool false))) (h1 : Hs s 1356 (ls #[v1_0, v1_1] 2)) (hs : segOK t [(0, t1)]) {q0 : List (Addr × Obj)} {w0 : Nat → List Obj} (c0 : CallOK [lawCode] w (kt2 w.params uu) (.call (.ref 459) ⟨[(.ref 1107)], []⟩) (tk (t + 0)) (tk t1) [] q0 (.bool false) [] w0) (e0 : w0 ((N + 1090) + 0) = [n0_0, n0_1, n0_2, n0_3, n0_4, n0_5, n0_6]) (g0 : ∀ x ∈ q0, s.heap.get? x.1 = some x.2 ∧ x.1 ∉ [1095, 1356]) :
  wp (model PP w) Γf (execs (lawSl 11 1) lawEnv) (fun g _ s' => g = .next ∧ After s s' [1095, 1356] (N + 1090) 8 (tk (t1 + 0)) ∧ Hs s' 1095 (loc9 w.params (tk u0_0) v0_0 (tk u0_2) (.ref 1107) (tk u0_4) v0_2 (tk u0_6) v0_3 (tk u0_8) (.ref 1356) (tk u0_10) v0_5 (tk u0_12) v0_6 (tk u0_14) v0_7 (tk u0_16) (.bool false)) ∧ Hs s' 1356 (ls #[v1_0, v1_1] 2)) (fun _ _ _ => False) p s := by
  have hkb := kb_of w.params uu (l := [1095, 1356]) (by decide)
  exact Sem.wp_mono _ _ _ (fun g _ s' h => ⟨h.1, h.2.1, h.2.2 _ m0, h.2.2 _ m1⟩) (fun _ _ _ h => h) _ _ (tri (cs_R10.2.2.2.2.2.2.2.2.2.2.2.2 w N t t1 u0_0 u0_2 u0_4 u0_6 u0_8 u0_10 u0_12 u0_14 u0_16 v0_0 v0_2 v0_3 v0_5 v0_6 v0_7 v1_0 v1_1 n0_0 n0_1 n0_2 n0_3 n0_4 n0_5 n0_6 uu p) (by kernel_rfl) hkb (by decide) hN ht hg hk (mc h0 <| mc h1 <| mn) hs (fa_cons (fun RX => spOK_of rfl rfl (sp_base hkb hk) rfl rfl c0 e0 rfl rfl rfl rfl (sp_keep g0)) <| fa_nil))

end
end Mine
end
section
set_option maxRecDepth 100000
set_option linter.unusedVariables false
open PySem PySem.W PySem.Calls PyProof.Rows
open PySem.Sem (wp)
namespace Mine
noncomputable section
def r_p12hn (w : World) (N t ua u0_0 u0_2 u0_4 u0_5 u0_6 u0_8 u0_10 u0_12 u0_14 u0_16 u3_3 u5_5 u6_9 u9_7 u9_9 : Nat) (v0_0 v0_5 v0_6 v0_7 v0_8 v2_16 v3_5 v3_7 v3_8 v3_9 v3_11 v3_12 v3_13 v3_14 v5_1 : Value) (uu : Nat) (p : Pos) : St :=
  runE (VL w (kt2 w.params uu) [1095, 1106, 1186, 1202, 1205, 1260, 1273, 1287, 1294, 1349, 1350, 1356, 1362] (N + 1090) t [] [] belL) 1737 [(0, (loc12 w.params (tk u0_0) v0_0 (tk u0_2) (.ref 1107) (tk u0_4) (iv 100 (tk u0_5)) (tk u0_6) (.ref 1203) (tk u0_8) (.ref 1356) (tk u0_10) v0_5 (tk u0_12) v0_6 (tk u0_14) v0_7 (tk u0_16) v0_8 (tk (t + 5)) (.bool false) (tk (t + 49)) (.ref ((N + 1090) + 9)) (tk (t + 59)) (.ref ((N + 1090) + 59)))),
    (1, (sh1106 w.params uu (.ref 1306))),
    (2, (sh1186 w.params uu v2_16)),
    (3, (sh1202 w.params uu (iv 0 (tk u3_3)) v3_5 v3_7 v3_8 v3_9 v3_11 v3_12 v3_13 v3_14)),
    (4, (dcO #[] 0)),
    (5, (sh1260 w.params uu v5_1 (iv 0 (tk u5_5)))),
    (6, (sh1273 w.params uu (iv 0 (tk u6_9)))),
    (7, (sh1287 w.params uu (.ref ((N + 1090) + 16)))),
    (8, (ls #[(.ref 1291), (.ref 1350)] 1)),
    (9, (sh1349 w.params ua (iv 100 (tk u9_7)) (iv 0 (tk u9_9)))),
    (10, ⟨(.ref 700), (some 1349), .plain, #[]⟩),
    (11, (ls #[] 0)),
    (12, (ls #[] 0)),
    (72, (ls #[] 0)),
    (29, (ls #[] 0))] .next 74 73 lawCode p [] (tree 12 7) (mkT [(loc9 w.params (tk u0_0) v0_0 (tk u0_2) (.ref 1107) (tk u0_4) (iv 100 (tk u0_5)) (tk u0_6) (.ref 1203) (tk u0_8) (.ref 1356) (tk u0_10) v0_5 (tk u0_12) v0_6 (tk u0_14) v0_7 (tk u0_16) v0_8),
    (sh1106 w.params uu (.ref 1306)),
    (sh1186 w.params uu v2_16),
    (sh1202 w.params uu (iv 0 (tk u3_3)) v3_5 v3_7 v3_8 v3_9 v3_11 v3_12 v3_13 v3_14),
    (dcO #[] 0),
    (sh1260 w.params uu v5_1 (iv 0 (tk u5_5))),
    (sh1273 w.params uu (iv 0 (tk u6_9))),
    (sh1287 w.params uu (.ref 1362)),
    (ls #[(.ref 1291), (.ref 1350)] 1),
    (sh1349 w.params ua (iv 100 (tk u9_7)) (iv 0 (tk u9_9))),
    ⟨(.ref 700), (some 1349), .plain, #[]⟩,
    (ls #[] 0),
    (ls #[] 0)] 0 .nil) 0 0 0 (dec [0x111c0012c011c10c000111c0012c011c10c000111c010c11c01122200000010c110010010fc11112222, 0x12c011c10c000111c0012c011c10c000111c0012c011c10c000111c0012c011c10c000111c0012c011c10c000111c0012c011c10c, 0x1111111111311111111111101001016c11111212211115c0700dc2112c14c011c10c000111c12c, 0x131111111111110001016c11cc01ac19c0001001ac19c0001001ac19c000101ac0112220019c1911, 0x19111111111111311111111111116c101dc11111111111111111111111111111, 0x111111111116c20c22c01ec0ec00010001122201ec0cc3311ec01122200ec16c017c11111111111111, 0x16c025c016c127c023c0ec000100011222023c0cc33123c01122200ec16c9991111111111111111311, 0x2ac0001002bc2ac0001002bc2ac000102bc011222002ac311111111111101001028c11111016c1, 0x2aa191111111111113111111111111033311111111111111110001028c12dc02bc, 0x111111111131111111111110111111111111100010028c100a0001012eca1122, 0x111111128cb100111011110cc00010028c100a00012ec11222111111111111111911, 0xa00012ecb100111011110cc028c112221111111111111119111111111111311111, 0x3135c011222018c222116c1122200118c116c1134c032c31c00010132c011222031c29c24c29c0124c29c24c28c30c02ec, 0x1122203bc0cc3313bc011222018c2113ac36c8113ac0822236c3ac36c2037c39c035c18c000100011222035c0cc3, 0x11110111041c1111151111111111111121140c3cc81140c082223cc40c3cc03dc3fc03bc18c0001003bc, 0x2200144c145c47c00066000100011222043c0cc33143c660011222042c6616666511111111, 0x1222049c0cc33149c01122200dc21101911019222148c1231111111111112112222112, 0x14ac1fc8114ac082221fc4ac1fc219111111111111311111111111124bc2214dc049c0dc00010049c1, 0x222aa91111111111110100104ec11111911111111111111311111111111121, 0x100111011110cc004ec100a00014fc1122201111111111111004ec100a0001014fca11, 0x51c1052c54c050c18c000100011222050c0cc33150c011222018c2111b100111011110cc0112224ecb, 0x1122258c055c51c000155c56c55c01122251c]) .nil
def r_p12hh (w : World) (N t ua u0_0 u0_2 u0_4 u0_5 u0_6 u0_8 u0_10 u0_12 u0_14 u0_16 u3_3 u5_5 u6_9 u9_7 u9_9 u12_1 u12_3 : Nat) (v0_0 v0_5 v0_6 v0_7 v0_8 v2_16 v3_5 v3_7 v3_8 v3_9 v3_11 v3_12 v3_13 v3_14 v5_1 : Value) (uu : Nat) (p : Pos) : St :=
  runE (VL w (kt2 w.params uu) [1095, 1106, 1186, 1202, 1205, 1260, 1273, 1287, 1294, 1349, 1350, 1356, 1366, 1370] (N + 1090) t [] [] belL) 1924 [(0, (loc12 w.params (tk u0_0) v0_0 (tk u0_2) (.ref 1107) (tk u0_4) (iv 100 (tk u0_5)) (tk u0_6) (.ref 1203) (tk u0_8) (.ref 1356) (tk u0_10) v0_5 (tk u0_12) v0_6 (tk u0_14) v0_7 (tk u0_16) v0_8 (tk (t + 5)) (.bool false) (tk (t + 53)) (.ref ((N + 1090) + 9)) (tk (t + 66)) (.ref ((N + 1090) + 62)))),
    (1, (sh1106 w.params uu (.ref 1306))),
    (2, (sh1186 w.params uu v2_16)),
    (3, (sh1202 w.params uu (iv 0 (tk u3_3)) v3_5 v3_7 v3_8 v3_9 v3_11 v3_12 v3_13 v3_14)),
    (4, (dcO #[] 0)),
    (5, (sh1260 w.params uu v5_1 (iv 0 (tk u5_5)))),
    (6, (sh1273 w.params uu (iv 0 (tk u6_9)))),
    (7, (sh1287 w.params uu (.ref ((N + 1090) + 16)))),
    (8, (ls #[(.ref 1291), (.ref 1350)] 1)),
    (9, (sh1349 w.params ua (iv 100 (tk u9_7)) (iv 0 (tk u9_9)))),
    (10, ⟨(.ref 700), (some 1349), .plain, #[]⟩),
    (11, (ls #[(.ref 1366)] 1)),
    (12, (tpO #[(sv "home" (tk u12_1)), (.bytes #[0, 0, 0, 0, 0, 0, 0, 0] (tk u12_3))] 0)),
    (13, (ls #[(.ref 1366)] 1)),
    (76, (ls #[(.ref 1366)] 1)),
    (30, (ls #[(.ref 1366)] 1))] .next 77 80 lawCode p [] (tree 12 7) (mkT [(loc9 w.params (tk u0_0) v0_0 (tk u0_2) (.ref 1107) (tk u0_4) (iv 100 (tk u0_5)) (tk u0_6) (.ref 1203) (tk u0_8) (.ref 1356) (tk u0_10) v0_5 (tk u0_12) v0_6 (tk u0_14) v0_7 (tk u0_16) v0_8),
    (sh1106 w.params uu (.ref 1306)),
    (sh1186 w.params uu v2_16),
    (sh1202 w.params uu (iv 0 (tk u3_3)) v3_5 v3_7 v3_8 v3_9 v3_11 v3_12 v3_13 v3_14),
    (dcO #[] 0),
    (sh1260 w.params uu v5_1 (iv 0 (tk u5_5))),
    (sh1273 w.params uu (iv 0 (tk u6_9))),
    (sh1287 w.params uu (.ref 1370)),
    (ls #[(.ref 1291), (.ref 1350)] 1),
    (sh1349 w.params ua (iv 100 (tk u9_7)) (iv 0 (tk u9_9))),
    ⟨(.ref 700), (some 1349), .plain, #[]⟩,
    (ls #[(.ref 1366)] 1),
    (tpO #[(sv "home" (tk u12_1)), (.bytes #[0, 0, 0, 0, 0, 0, 0, 0] (tk u12_3))] 0),
    (ls #[(.ref 1366)] 1)] 0 .nil) 0 0 0 (dec [0x112c0013c012c11c000112c0013c012c11c000112c011c12c01122200000011c1100100110c11112222, 0x13c012c11c000112c0013c012c11c000112c0013c012c11c000112c0013c012c11c000112c0013c012c11c000112c0013c012c11c, 0x1111111111311111111111101001017c111112122110ec16c0700dc2113c15c012c11c000112c13c, 0x131111111111110001017c11dc01bc1ac0001001bc1ac0001001bc1ac000101bc011222001ac1911, 0x19111111111111311111111111117c101ec11111111111111111111111111111, 0x2218c001000ec0021c101fc0fc00010001122201fc0cc3311fc01122200fc17c018c11111111111111, 0x22200fc09991111111111111111311111111111117c0021c23c01fc0fc00011fc00020c121c112, 0x27c0ec00010027c0ec00010027c0ec0001027c011222000ec0024c0fc000100011222024c0cc33124c0fc11, 0x1111111111110100102cc1111100117c0000026c017c12bc024c0fc000124c1122218c0001026c129c, 0x31111111111111111000102cc131c02fc2ec0001002fc2ec0001002fc2ec000102fc011222002ec3, 0x11110001002cc100a00010132ca11222aa1911111111111131111111111112cc33, 0x132c11222111111111111111911111111111131111111111112cc111111111, 0x11111111911111111111131111111111112ccb100111011110cc0001002cc100a32c, 0x10136c011222035c2dc25c2dc0125c2dc25c2cc34c00a000132cb100111011110cc02cc112221111111, 0x23ac3ec3ac203bc3dc039c19c000100011222039c0cc33139c011222019c222117c1122200119c117c1138c036c35c, 0x44c40c81144c0822240c44c40c041c43c03fc19c00010001122203fc0cc3313fc011222019c2113ec3ac8113ec3ac822, 0x660011222046c661666651111111111110111045c11111511111111111111211, 0x14cc12311111111111121122221122200148c149c4bc00066000100011222047c0cc33147c, 0x4fc11222001000ec004fc104dc0dc00010001122204dc0cc3314dc01122200dc211019114cc19222, 0x114ec0822220c4ec20c21911111111111131111111111112004fc22151c04dc0dc00014dc0004ec1, 0xa911111111111101001052c1111191111111111111131111111111112114ec20c8, 0x11011110cc0052c100a000153c11222011111111111110052c100a00010153ca11222a, 0x58c054c19c000100011222054c0cc33154c011222019c2111b100111011110cc01122252cb100cc1, 0x112225cc059c55c000159c5ac59c011222055c1056c]) .nil
def r_p12tn (w : World) (N t ua u0_0 u0_2 u0_4 u0_5 u0_6 u0_8 u0_10 u0_12 u0_14 u0_16 u3_3 u5_5 u6_9 u9_7 u9_9 : Nat) (v0_0 v0_5 v0_6 v0_7 v0_8 v2_16 v3_5 v3_7 v3_8 v3_9 v3_11 v3_12 v3_13 v3_14 v5_1 : Value) (uu : Nat) (p : Pos) : St :=
  runE (VL w (kt2 w.params uu) [1095, 1106, 1186, 1202, 1205, 1260, 1273, 1287, 1294, 1349, 1350, 1356, 1362] (N + 1090) t [] [] belL) 1540 [(0, (loc12 w.params (tk u0_0) v0_0 (tk u0_2) (.ref 1107) (tk u0_4) (iv 10 (tk u0_5)) (tk u0_6) (.ref 1203) (tk u0_8) (.ref 1356) (tk u0_10) v0_5 (tk u0_12) v0_6 (tk u0_14) v0_7 (tk u0_16) v0_8 (tk (t + 1)) (.bool false) (tk (t + 45)) (.ref ((N + 1090) + 2)) (tk (t + 55)) (.ref ((N + 1090) + 52)))),
    (1, (sh1106 w.params uu (.ref 1306))),
    (2, (sh1186 w.params uu v2_16)),
    (3, (sh1202 w.params uu (iv 0 (tk u3_3)) v3_5 v3_7 v3_8 v3_9 v3_11 v3_12 v3_13 v3_14)),
    (4, (dcO #[] 0)),
    (5, (sh1260 w.params uu v5_1 (iv 0 (tk u5_5)))),
    (6, (sh1273 w.params uu (iv 0 (tk u6_9)))),
    (7, (sh1287 w.params uu (.ref ((N + 1090) + 9)))),
    (8, (ls #[(.ref 1291), (.ref 1350)] 1)),
    (9, (sh1349 w.params ua (iv 10 (tk u9_7)) (iv 0 (tk u9_9)))),
    (10, ⟨(.ref 700), (some 1349), .plain, #[]⟩),
    (11, (ls #[] 0)),
    (12, (ls #[] 0)),
    (65, (ls #[] 0)),
    (22, (ls #[] 0))] .next 67 69 lawCode p [] (tree 12 7) (mkT [(loc9 w.params (tk u0_0) v0_0 (tk u0_2) (.ref 1107) (tk u0_4) (iv 10 (tk u0_5)) (tk u0_6) (.ref 1203) (tk u0_8) (.ref 1356) (tk u0_10) v0_5 (tk u0_12) v0_6 (tk u0_14) v0_7 (tk u0_16) v0_8),
    (sh1106 w.params uu (.ref 1306)),
    (sh1186 w.params uu v2_16),
    (sh1202 w.params uu (iv 0 (tk u3_3)) v3_5 v3_7 v3_8 v3_9 v3_11 v3_12 v3_13 v3_14),
    (dcO #[] 0),
    (sh1260 w.params uu v5_1 (iv 0 (tk u5_5))),
    (sh1273 w.params uu (iv 0 (tk u6_9))),
    (sh1287 w.params uu (.ref 1362)),
    (ls #[(.ref 1291), (.ref 1350)] 1),
    (sh1349 w.params ua (iv 10 (tk u9_7)) (iv 0 (tk u9_9))),
    ⟨(.ref 700), (some 1349), .plain, #[]⟩,
    (ls #[] 0),
    (ls #[] 0)] 0 .nil) 0 0 0 (dec [0x13c0112220012c1911111111111131111111111110100100fc1111121221112222, 0x1111111111111113111111111111000100fc115c013c12c00010013c12c00010013c12c000113c, 0x111111111111111911111111111131111111111110fc1016c111111111111111, 0x1111111111131111111111110fc19c1bc017c0ec000100011222017c0cc33117c01122200ec0fc010c, 0x1001021c111110010fc01ec00fc120c01cc0ec00010001122201cc0cc3311cc01122200ec0fc99911111, 0x11110001021c126c024c23c00010024c23c00010024c23c0001024c0112220023c311111111111121c, 0xa00010127ca11222aa19111111111111311111111111121c333111111111111, 0x11111111111911111111111131111111111110111111111111100010021c127c, 0x11111111311111111111121cb100111011110cc00010021c100a000127c112221111, 0x2ac22c1dc22c011dc22c1dc21c29c00a000127cb100111011110cc021c1122211111111111111191111, 0x10001122202ec0cc3312ec011222011c22210fc1122200111c10fc112dc02bc2ac0001012bc2ac11222, 0x35c036c38c034c11c000100011222034c0cc33134c011222011c21133c2fc81133c082222fc33c2fc2030c32c02ec11c02ec, 0x166665111111111111011103ac1111151111111111111121139c35c81139c0822235c39c, 0x11112112222112220013dc13ec40c0006600010001122203cc0cc3313cc66001122203bc66, 0x2146c042c0dc000100011222042c0cc33142c01122200dc21101911019222141c12311111111, 0x11111111111121143c18c81143c0822218c43c18c2191111111111113111111111111244c2, 0x100a00010148ca11222aa911111111111101001047c111119111111111111113, 0x11110cc01122247cb100111011110cc0047c100a000148c11222011111111111110047c, 0x14ec4fc4ec01122204ac104bc4dc049c11c000100011222049c0cc33149c011222011c2111b100cc111, 0x1122251c04ec4ac]) .nil
def r_p12th (w : World) (N t ua u0_0 u0_2 u0_4 u0_5 u0_6 u0_8 u0_10 u0_12 u0_14 u0_16 u3_3 u5_5 u6_9 u9_7 u9_9 u12_1 u12_3 : Nat) (v0_0 v0_5 v0_6 v0_7 v0_8 v2_16 v3_5 v3_7 v3_8 v3_9 v3_11 v3_12 v3_13 v3_14 v5_1 : Value) (uu : Nat) (p : Pos) : St :=
  runE (VL w (kt2 w.params uu) [1095, 1106, 1186, 1202, 1205, 1260, 1273, 1287, 1294, 1349, 1350, 1356, 1366, 1370] (N + 1090) t [] [] belL) 1727 [(0, (loc12 w.params (tk u0_0) v0_0 (tk u0_2) (.ref 1107) (tk u0_4) (iv 10 (tk u0_5)) (tk u0_6) (.ref 1203) (tk u0_8) (.ref 1356) (tk u0_10) v0_5 (tk u0_12) v0_6 (tk u0_14) v0_7 (tk u0_16) v0_8 (tk (t + 1)) (.bool false) (tk (t + 49)) (.ref ((N + 1090) + 2)) (tk (t + 62)) (.ref ((N + 1090) + 55)))),
    (1, (sh1106 w.params uu (.ref 1306))),
    (2, (sh1186 w.params uu v2_16)),
    (3, (sh1202 w.params uu (iv 0 (tk u3_3)) v3_5 v3_7 v3_8 v3_9 v3_11 v3_12 v3_13 v3_14)),
    (4, (dcO #[] 0)),
    (5, (sh1260 w.params uu v5_1 (iv 0 (tk u5_5)))),
    (6, (sh1273 w.params uu (iv 0 (tk u6_9)))),
    (7, (sh1287 w.params uu (.ref ((N + 1090) + 9)))),
    (8, (ls #[(.ref 1291), (.ref 1350)] 1)),
    (9, (sh1349 w.params ua (iv 10 (tk u9_7)) (iv 0 (tk u9_9)))),
    (10, ⟨(.ref 700), (some 1349), .plain, #[]⟩),
    (11, (ls #[(.ref 1366)] 1)),
    (12, (tpO #[(sv "home" (tk u12_1)), (.bytes #[0, 0, 0, 0, 0, 0, 0, 0] (tk u12_3))] 0)),
    (13, (ls #[(.ref 1366)] 1)),
    (69, (ls #[(.ref 1366)] 1)),
    (23, (ls #[(.ref 1366)] 1))] .next 70 76 lawCode p [] (tree 12 7) (mkT [(loc9 w.params (tk u0_0) v0_0 (tk u0_2) (.ref 1107) (tk u0_4) (iv 10 (tk u0_5)) (tk u0_6) (.ref 1203) (tk u0_8) (.ref 1356) (tk u0_10) v0_5 (tk u0_12) v0_6 (tk u0_14) v0_7 (tk u0_16) v0_8),
    (sh1106 w.params uu (.ref 1306)),
    (sh1186 w.params uu v2_16),
    (sh1202 w.params uu (iv 0 (tk u3_3)) v3_5 v3_7 v3_8 v3_9 v3_11 v3_12 v3_13 v3_14),
    (dcO #[] 0),
    (sh1260 w.params uu v5_1 (iv 0 (tk u5_5))),
    (sh1273 w.params uu (iv 0 (tk u6_9))),
    (sh1287 w.params uu (.ref 1370)),
    (ls #[(.ref 1291), (.ref 1350)] 1),
    (sh1349 w.params ua (iv 10 (tk u9_7)) (iv 0 (tk u9_9))),
    ⟨(.ref 700), (some 1349), .plain, #[]⟩,
    (ls #[(.ref 1366)] 1),
    (tpO #[(sv "home" (tk u12_1)), (.bytes #[0, 0, 0, 0, 0, 0, 0, 0] (tk u12_3))] 0),
    (ls #[(.ref 1366)] 1)] 0 .nil) 0 0 0 (dec [0x14c0112220013c19111111111111311111111111101001010c1111121221112222, 0x11111111111111131111111111110001010c116c014c13c00010014c13c00010014c13c000114c, 0x1111111111111119111111111111311111111111110c1017c111111111111111, 0x118c00019c11ac1122211c001000ec001ac1018c0fc000100011222018c0cc33118c01122200fc10c011c, 0x122201dc0cc3311dc01122200fc09991111111111111111311111111111110c001ac1cc018c0fc, 0x1122211c000101fc122c020c0ec00010020c0ec00010020c0ec0001020c011222000ec001dc0fc0001001dc1, 0x1028c0112220027c311111111111101001025c1111100110c000001fc010c124c01dc0fc00011dc, 0x11111111111033311111111111111110001025c12ac028c27c00010028c27c00010028c27c028c, 0x11110111111111111100010025c100a0001012bca11222aa1911111111111131, 0x10cc00010025c100a00012bc112221111111111111119111111111111311111111, 0x112221111111111111119111111111111311111111111125cb1001110cc111, 0x2200112c110c1131c02fc2ec0001012fc01122202ec26c1ec26c011ec26c1ec25c2dc00a00012bcb100111011110cc, 0x12c21137c33c81137c0822233c37c33c2034c36c032c12c000100011222032c0cc33132c011222012c222110c112, 0x111111111112113dc39c8113dc0822239c3dc39c03ac3cc038c12c000100011222038c0cc33138c01122212c, 0x11222040c0cc33140c66001122203fc66166665111111111111011103ec111115111, 0x21101911019222145c12311111111111121122221122200141c142c44c00066000140c, 0x4ac046c0dc000146c00047c148c11222001000ec0048c1046c0dc000100011222046c0cc33146c01122200dc, 0x1111111121147c19c81147c0822219c47c19c219111111111111311111111111120048c221, 0x1014cca11222aa91111111111110100104bc1111191111111111111131111, 0x10cc0112224bcb100111011110cc004bc100a00014cc1122201111111111111004bc104cca, 0x52c53c52c01122204ec104fc51c04dc12c00010001122204dc0cc3314dc011222012c2111b1001110cc111, 0x1122255c052c4ec0052c1]) .nil
theorem cs_R12L :
  (∀ (w : World) (N t ua u0_0 u0_2 u0_4 u0_5 u0_6 u0_8 u0_10 u0_12 u0_14 u0_16 u3_3 u5_5 u6_9 u9_7 u9_9 : Nat) (v0_0 v0_5 v0_6 v0_7 v0_8 v2_16 v3_5 v3_7 v3_8 v3_9 v3_11 v3_12 v3_13 v3_14 v5_1 : Value) (uu : Nat) (p : Pos), okR (r_p12hn w N t ua u0_0 u0_2 u0_4 u0_5 u0_6 u0_8 u0_10 u0_12 u0_14 u0_16 u3_3 u5_5 u6_9 u9_7 u9_9 v0_0 v0_5 v0_6 v0_7 v0_8 v2_16 v3_5 v3_7 v3_8 v3_9 v3_11 v3_12 v3_13 v3_14 v5_1 uu p)) ∧
  (∀ (w : World) (N t ua u0_0 u0_2 u0_4 u0_5 u0_6 u0_8 u0_10 u0_12 u0_14 u0_16 u3_3 u5_5 u6_9 u9_7 u9_9 u12_1 u12_3 : Nat) (v0_0 v0_5 v0_6 v0_7 v0_8 v2_16 v3_5 v3_7 v3_8 v3_9 v3_11 v3_12 v3_13 v3_14 v5_1 : Value) (uu : Nat) (p : Pos), okR (r_p12hh w N t ua u0_0 u0_2 u0_4 u0_5 u0_6 u0_8 u0_10 u0_12 u0_14 u0_16 u3_3 u5_5 u6_9 u9_7 u9_9 u12_1 u12_3 v0_0 v0_5 v0_6 v0_7 v0_8 v2_16 v3_5 v3_7 v3_8 v3_9 v3_11 v3_12 v3_13 v3_14 v5_1 uu p)) ∧
  (∀ (w : World) (N t ua u0_0 u0_2 u0_4 u0_5 u0_6 u0_8 u0_10 u0_12 u0_14 u0_16 u3_3 u5_5 u6_9 u9_7 u9_9 : Nat) (v0_0 v0_5 v0_6 v0_7 v0_8 v2_16 v3_5 v3_7 v3_8 v3_9 v3_11 v3_12 v3_13 v3_14 v5_1 : Value) (uu : Nat) (p : Pos), okR (r_p12tn w N t ua u0_0 u0_2 u0_4 u0_5 u0_6 u0_8 u0_10 u0_12 u0_14 u0_16 u3_3 u5_5 u6_9 u9_7 u9_9 v0_0 v0_5 v0_6 v0_7 v0_8 v2_16 v3_5 v3_7 v3_8 v3_9 v3_11 v3_12 v3_13 v3_14 v5_1 uu p)) ∧
  (∀ (w : World) (N t ua u0_0 u0_2 u0_4 u0_5 u0_6 u0_8 u0_10 u0_12 u0_14 u0_16 u3_3 u5_5 u6_9 u9_7 u9_9 u12_1 u12_3 : Nat) (v0_0 v0_5 v0_6 v0_7 v0_8 v2_16 v3_5 v3_7 v3_8 v3_9 v3_11 v3_12 v3_13 v3_14 v5_1 : Value) (uu : Nat) (p : Pos), okR (r_p12th w N t ua u0_0 u0_2 u0_4 u0_5 u0_6 u0_8 u0_10 u0_12 u0_14 u0_16 u3_3 u5_5 u6_9 u9_7 u9_9 u12_1 u12_3 v0_0 v0_5 v0_6 v0_7 v0_8 v2_16 v3_5 v3_7 v3_8 v3_9 v3_11 v3_12 v3_13 v3_14 v5_1 uu p)) :=
  ⟨fun _ _ _ _ _ _ _ _ _ _ _ _ _ _ _ _ _ _ _ _ _ _ _ _ _ _ _ _ _ _ _ _ _ _ _ _ => by kernel_rfl,
  fun _ _ _ _ _ _ _ _ _ _ _ _ _ _ _ _ _ _ _ _ _ _ _ _ _ _ _ _ _ _ _ _ _ _ _ _ _ _ => by kernel_rfl,
  fun _ _ _ _ _ _ _ _ _ _ _ _ _ _ _ _ _ _ _ _ _ _ _ _ _ _ _ _ _ _ _ _ _ _ _ _ => by kernel_rfl,
  fun _ _ _ _ _ _ _ _ _ _ _ _ _ _ _ _ _ _ _ _ _ _ _ _ _ _ _ _ _ _ _ _ _ _ _ _ _ _ => by kernel_rfl⟩
theorem p12hn {w : World} {s : Shared} {p : Pos} {N t ua u0_0 u0_2 u0_4 u0_5 u0_6 u0_8 u0_10 u0_12 u0_14 u0_16 u3_3 u5_5 u6_9 u9_7 u9_9 : Nat} {v0_0 v0_5 v0_6 v0_7 v0_8 v2_16 v3_5 v3_7 v3_8 v3_9 v3_11 v3_12 v3_13 v3_14 v5_1 : Value} {uu : Nat} (hN : s.heap.objs.size = (N + 1090)) (ht : s.toks = t + 1837) (hg : s.gens = #[]) (hk : AKT s.heap (kt2 w.params uu)) (h0 : Hs s 1095 (loc9 w.params (tk u0_0) v0_0 (tk u0_2) (.ref 1107) (tk u0_4) (iv 100 (tk u0_5)) (tk u0_6) (.ref 1203) (tk u0_8) (.ref 1356) (tk u0_10) v0_5 (tk u0_12) v0_6 (tk u0_14) v0_7 (tk u0_16) v0_8)) (h1 : Hs s 1106 (sh1106 w.params uu (.ref 1306))) (h2 : Hs s 1186 (sh1186 w.params uu v2_16)) (h3 : Hs s 1202 (sh1202 w.params uu (iv 0 (tk u3_3)) v3_5 v3_7 v3_8 v3_9 v3_11 v3_12 v3_13 v3_14)) (h4 : Hs s 1205 (dcO #[] 0)) (h5 : Hs s 1260 (sh1260 w.params uu v5_1 (iv 0 (tk u5_5)))) (h6 : Hs s 1273 (sh1273 w.params uu (iv 0 (tk u6_9)))) (h7 : Hs s 1287 (sh1287 w.params uu (.ref 1362))) (h8 : Hs s 1294 (ls #[(.ref 1291), (.ref 1350)] 1)) (h9 : Hs s 1349 (sh1349 w.params ua (iv 100 (tk u9_7)) (iv 0 (tk u9_9)))) (h10 : Hs s 1350 ⟨(.ref 700), (some 1349), .plain, #[]⟩) (h11 : Hs s 1356 (ls #[] 0)) (h12 : Hs s 1362 (ls #[] 0)) :
  wp (model PP w) Γf (execs (lawSl 12 7) lawEnv) (fun g _ s' => g = .next ∧ After s s' [1095, 1106, 1186, 1202, 1205, 1260, 1273, 1287, 1294, 1349, 1350, 1356, 1362] (N + 1090) 74 (tk (t + 73)) ∧ Hs s' 1095 (loc12 w.params (tk u0_0) v0_0 (tk u0_2) (.ref 1107) (tk u0_4) (iv 100 (tk u0_5)) (tk u0_6) (.ref 1203) (tk u0_8) (.ref 1356) (tk u0_10) v0_5 (tk u0_12) v0_6 (tk u0_14) v0_7 (tk u0_16) v0_8 (tk (t + 5)) (.bool false) (tk (t + 49)) (.ref ((N + 1090) + 9)) (tk (t + 59)) (.ref ((N + 1090) + 59))) ∧ Hs s' 1106 (sh1106 w.params uu (.ref 1306)) ∧ Hs s' 1186 (sh1186 w.params uu v2_16) ∧ Hs s' 1202 (sh1202 w.params uu (iv 0 (tk u3_3)) v3_5 v3_7 v3_8 v3_9 v3_11 v3_12 v3_13 v3_14) ∧ Hs s' 1205 (dcO #[] 0) ∧ Hs s' 1260 (sh1260 w.params uu v5_1 (iv 0 (tk u5_5))) ∧ Hs s' 1273 (sh1273 w.params uu (iv 0 (tk u6_9))) ∧ Hs s' 1287 (sh1287 w.params uu (.ref ((N + 1090) + 16))) ∧ Hs s' 1294 (ls #[(.ref 1291), (.ref 1350)] 1) ∧ Hs s' 1349 (sh1349 w.params ua (iv 100 (tk u9_7)) (iv 0 (tk u9_9))) ∧ Hs s' 1350 ⟨(.ref 700), (some 1349), .plain, #[]⟩ ∧ Hs s' 1356 (ls #[] 0) ∧ Hs s' 1362 (ls #[] 0) ∧ Hs s' ((N + 1090) + 59) (ls #[] 0) ∧ Hs s' ((N + 1090) + 16) (ls #[] 0)) (fun _ _ _ => False) p s := by
  have hkb := kb_of w.params uu (l := [1095, 1106, 1186, 1202, 1205, 1260, 1273, 1287, 1294, 1349, 1350, 1356, 1362]) (by decide)
  exact Sem.wp_mono _ _ _ (fun g _ s' h => ⟨h.1, h.2.1, h.2.2 _ m0, h.2.2 _ m1, h.2.2 _ m2, h.2.2 _ m3, h.2.2 _ m4, h.2.2 _ m5, h.2.2 _ m6, h.2.2 _ m7, h.2.2 _ m8, h.2.2 _ m9, h.2.2 _ m10, h.2.2 _ m11, h.2.2 _ m12, h.2.2 _ m13, h.2.2 _ m14⟩) (fun _ _ _ h => h) _ _ (tri (cs_R12L.1 w N t ua u0_0 u0_2 u0_4 u0_5 u0_6 u0_8 u0_10 u0_12 u0_14 u0_16 u3_3 u5_5 u6_9 u9_7 u9_9 v0_0 v0_5 v0_6 v0_7 v0_8 v2_16 v3_5 v3_7 v3_8 v3_9 v3_11 v3_12 v3_13 v3_14 v5_1 uu p) (by kernel_rfl) hkb (by decide) hN ht hg hk (mc h0 <| mc h1 <| mc h2 <| mc h3 <| mc h4 <| mc h5 <| mc h6 <| mc h7 <| mc h8 <| mc h9 <| mc h10 <| mc h11 <| mc h12 <| mn) trivial (fa_nil))

theorem p12hh {w : World} {s : Shared} {p : Pos} {N t ua u0_0 u0_2 u0_4 u0_5 u0_6 u0_8 u0_10 u0_12 u0_14 u0_16 u3_3 u5_5 u6_9 u9_7 u9_9 u12_1 u12_3 : Nat} {v0_0 v0_5 v0_6 v0_7 v0_8 v2_16 v3_5 v3_7 v3_8 v3_9 v3_11 v3_12 v3_13 v3_14 v5_1 : Value} {uu : Nat} (hN : s.heap.objs.size = (N + 1090)) (ht : s.toks = t + 1837) (hg : s.gens = #[]) (hk : AKT s.heap (kt2 w.params uu)) (h0 : Hs s 1095 (loc9 w.params (tk u0_0) v0_0 (tk u0_2) (.ref 1107) (tk u0_4) (iv 100 (tk u0_5)) (tk u0_6) (.ref 1203) (tk u0_8) (.ref 1356) (tk u0_10) v0_5 (tk u0_12) v0_6 (tk u0_14) v0_7 (tk u0_16) v0_8)) (h1 : Hs s 1106 (sh1106 w.params uu (.ref 1306))) (h2 : Hs s 1186 (sh1186 w.params uu v2_16)) (h3 : Hs s 1202 (sh1202 w.params uu (iv 0 (tk u3_3)) v3_5 v3_7 v3_8 v3_9 v3_11 v3_12 v3_13 v3_14)) (h4 : Hs s 1205 (dcO #[] 0)) (h5 : Hs s 1260 (sh1260 w.params uu v5_1 (iv 0 (tk u5_5)))) (h6 : Hs s 1273 (sh1273 w.params uu (iv 0 (tk u6_9)))) (h7 : Hs s 1287 (sh1287 w.params uu (.ref 1370))) (h8 : Hs s 1294 (ls #[(.ref 1291), (.ref 1350)] 1)) (h9 : Hs s 1349 (sh1349 w.params ua (iv 100 (tk u9_7)) (iv 0 (tk u9_9)))) (h10 : Hs s 1350 ⟨(.ref 700), (some 1349), .plain, #[]⟩) (h11 : Hs s 1356 (ls #[(.ref 1366)] 1)) (h12 : Hs s 1366 (tpO #[(sv "home" (tk u12_1)), (.bytes #[0, 0, 0, 0, 0, 0, 0, 0] (tk u12_3))] 0)) (h13 : Hs s 1370 (ls #[(.ref 1366)] 1)) :
  wp (model PP w) Γf (execs (lawSl 12 7) lawEnv) (fun g _ s' => g = .next ∧ After s s' [1095, 1106, 1186, 1202, 1205, 1260, 1273, 1287, 1294, 1349, 1350, 1356, 1366, 1370] (N + 1090) 77 (tk (t + 80)) ∧ Hs s' 1095 (loc12 w.params (tk u0_0) v0_0 (tk u0_2) (.ref 1107) (tk u0_4) (iv 100 (tk u0_5)) (tk u0_6) (.ref 1203) (tk u0_8) (.ref 1356) (tk u0_10) v0_5 (tk u0_12) v0_6 (tk u0_14) v0_7 (tk u0_16) v0_8 (tk (t + 5)) (.bool false) (tk (t + 53)) (.ref ((N + 1090) + 9)) (tk (t + 66)) (.ref ((N + 1090) + 62))) ∧ Hs s' 1106 (sh1106 w.params uu (.ref 1306)) ∧ Hs s' 1186 (sh1186 w.params uu v2_16) ∧ Hs s' 1202 (sh1202 w.params uu (iv 0 (tk u3_3)) v3_5 v3_7 v3_8 v3_9 v3_11 v3_12 v3_13 v3_14) ∧ Hs s' 1205 (dcO #[] 0) ∧ Hs s' 1260 (sh1260 w.params uu v5_1 (iv 0 (tk u5_5))) ∧ Hs s' 1273 (sh1273 w.params uu (iv 0 (tk u6_9))) ∧ Hs s' 1287 (sh1287 w.params uu (.ref ((N + 1090) + 16))) ∧ Hs s' 1294 (ls #[(.ref 1291), (.ref 1350)] 1) ∧ Hs s' 1349 (sh1349 w.params ua (iv 100 (tk u9_7)) (iv 0 (tk u9_9))) ∧ Hs s' 1350 ⟨(.ref 700), (some 1349), .plain, #[]⟩ ∧ Hs s' 1356 (ls #[(.ref 1366)] 1) ∧ Hs s' 1366 (tpO #[(sv "home" (tk u12_1)), (.bytes #[0, 0, 0, 0, 0, 0, 0, 0] (tk u12_3))] 0) ∧ Hs s' 1370 (ls #[(.ref 1366)] 1) ∧ Hs s' ((N + 1090) + 62) (ls #[(.ref 1366)] 1) ∧ Hs s' ((N + 1090) + 16) (ls #[(.ref 1366)] 1)) (fun _ _ _ => False) p s := by
  have hkb := kb_of w.params uu (l := [1095, 1106, 1186, 1202, 1205, 1260, 1273, 1287, 1294, 1349, 1350, 1356, 1366, 1370]) (by decide)
  exact Sem.wp_mono _ _ _ (fun g _ s' h => ⟨h.1, h.2.1, h.2.2 _ m0, h.2.2 _ m1, h.2.2 _ m2, h.2.2 _ m3, h.2.2 _ m4, h.2.2 _ m5, h.2.2 _ m6, h.2.2 _ m7, h.2.2 _ m8, h.2.2 _ m9, h.2.2 _ m10, h.2.2 _ m11, h.2.2 _ m12, h.2.2 _ m13, h.2.2 _ m14, h.2.2 _ m15⟩) (fun _ _ _ h => h) _ _ (tri (cs_R12L.2.1 w N t ua u0_0 u0_2 u0_4 u0_5 u0_6 u0_8 u0_10 u0_12 u0_14 u0_16 u3_3 u5_5 u6_9 u9_7 u9_9 u12_1 u12_3 v0_0 v0_5 v0_6 v0_7 v0_8 v2_16 v3_5 v3_7 v3_8 v3_9 v3_11 v3_12 v3_13 v3_14 v5_1 uu p) (by kernel_rfl) hkb (by decide) hN ht hg hk (mc h0 <| mc h1 <| mc h2 <| mc h3 <| mc h4 <| mc h5 <| mc h6 <| mc h7 <| mc h8 <| mc h9 <| mc h10 <| mc h11 <| mc h12 <| mc h13 <| mn) trivial (fa_nil))

theorem p12tn {w : World} {s : Shared} {p : Pos} {N t ua u0_0 u0_2 u0_4 u0_5 u0_6 u0_8 u0_10 u0_12 u0_14 u0_16 u3_3 u5_5 u6_9 u9_7 u9_9 : Nat} {v0_0 v0_5 v0_6 v0_7 v0_8 v2_16 v3_5 v3_7 v3_8 v3_9 v3_11 v3_12 v3_13 v3_14 v5_1 : Value} {uu : Nat} (hN : s.heap.objs.size = (N + 1090)) (ht : s.toks = t + 1837) (hg : s.gens = #[]) (hk : AKT s.heap (kt2 w.params uu)) (h0 : Hs s 1095 (loc9 w.params (tk u0_0) v0_0 (tk u0_2) (.ref 1107) (tk u0_4) (iv 10 (tk u0_5)) (tk u0_6) (.ref 1203) (tk u0_8) (.ref 1356) (tk u0_10) v0_5 (tk u0_12) v0_6 (tk u0_14) v0_7 (tk u0_16) v0_8)) (h1 : Hs s 1106 (sh1106 w.params uu (.ref 1306))) (h2 : Hs s 1186 (sh1186 w.params uu v2_16)) (h3 : Hs s 1202 (sh1202 w.params uu (iv 0 (tk u3_3)) v3_5 v3_7 v3_8 v3_9 v3_11 v3_12 v3_13 v3_14)) (h4 : Hs s 1205 (dcO #[] 0)) (h5 : Hs s 1260 (sh1260 w.params uu v5_1 (iv 0 (tk u5_5)))) (h6 : Hs s 1273 (sh1273 w.params uu (iv 0 (tk u6_9)))) (h7 : Hs s 1287 (sh1287 w.params uu (.ref 1362))) (h8 : Hs s 1294 (ls #[(.ref 1291), (.ref 1350)] 1)) (h9 : Hs s 1349 (sh1349 w.params ua (iv 10 (tk u9_7)) (iv 0 (tk u9_9)))) (h10 : Hs s 1350 ⟨(.ref 700), (some 1349), .plain, #[]⟩) (h11 : Hs s 1356 (ls #[] 0)) (h12 : Hs s 1362 (ls #[] 0)) :
  wp (model PP w) Γf (execs (lawSl 12 7) lawEnv) (fun g _ s' => g = .next ∧ After s s' [1095, 1106, 1186, 1202, 1205, 1260, 1273, 1287, 1294, 1349, 1350, 1356, 1362] (N + 1090) 67 (tk (t + 69)) ∧ Hs s' 1095 (loc12 w.params (tk u0_0) v0_0 (tk u0_2) (.ref 1107) (tk u0_4) (iv 10 (tk u0_5)) (tk u0_6) (.ref 1203) (tk u0_8) (.ref 1356) (tk u0_10) v0_5 (tk u0_12) v0_6 (tk u0_14) v0_7 (tk u0_16) v0_8 (tk (t + 1)) (.bool false) (tk (t + 45)) (.ref ((N + 1090) + 2)) (tk (t + 55)) (.ref ((N + 1090) + 52))) ∧ Hs s' 1106 (sh1106 w.params uu (.ref 1306)) ∧ Hs s' 1186 (sh1186 w.params uu v2_16) ∧ Hs s' 1202 (sh1202 w.params uu (iv 0 (tk u3_3)) v3_5 v3_7 v3_8 v3_9 v3_11 v3_12 v3_13 v3_14) ∧ Hs s' 1205 (dcO #[] 0) ∧ Hs s' 1260 (sh1260 w.params uu v5_1 (iv 0 (tk u5_5))) ∧ Hs s' 1273 (sh1273 w.params uu (iv 0 (tk u6_9))) ∧ Hs s' 1287 (sh1287 w.params uu (.ref ((N + 1090) + 9))) ∧ Hs s' 1294 (ls #[(.ref 1291), (.ref 1350)] 1) ∧ Hs s' 1349 (sh1349 w.params ua (iv 10 (tk u9_7)) (iv 0 (tk u9_9))) ∧ Hs s' 1350 ⟨(.ref 700), (some 1349), .plain, #[]⟩ ∧ Hs s' 1356 (ls #[] 0) ∧ Hs s' 1362 (ls #[] 0) ∧ Hs s' ((N + 1090) + 52) (ls #[] 0) ∧ Hs s' ((N + 1090) + 9) (ls #[] 0)) (fun _ _ _ => False) p s := by
  have hkb := kb_of w.params uu (l := [1095, 1106, 1186, 1202, 1205, 1260, 1273, 1287, 1294, 1349, 1350, 1356, 1362]) (by decide)
  exact Sem.wp_mono _ _ _ (fun g _ s' h => ⟨h.1, h.2.1, h.2.2 _ m0, h.2.2 _ m1, h.2.2 _ m2, h.2.2 _ m3, h.2.2 _ m4, h.2.2 _ m5, h.2.2 _ m6, h.2.2 _ m7, h.2.2 _ m8, h.2.2 _ m9, h.2.2 _ m10, h.2.2 _ m11, h.2.2 _ m12, h.2.2 _ m13, h.2.2 _ m14⟩) (fun _ _ _ h => h) _ _ (tri (cs_R12L.2.2.1 w N t ua u0_0 u0_2 u0_4 u0_5 u0_6 u0_8 u0_10 u0_12 u0_14 u0_16 u3_3 u5_5 u6_9 u9_7 u9_9 v0_0 v0_5 v0_6 v0_7 v0_8 v2_16 v3_5 v3_7 v3_8 v3_9 v3_11 v3_12 v3_13 v3_14 v5_1 uu p) (by kernel_rfl) hkb (by decide) hN ht hg hk (mc h0 <| mc h1 <| mc h2 <| mc h3 <| mc h4 <| mc h5 <| mc h6 <| mc h7 <| mc h8 <| mc h9 <| mc h10 <| mc h11 <| mc h12 <| mn) trivial (fa_nil))

theorem p12th {w : World} {s : Shared} {p : Pos} {N t ua u0_0 u0_2 u0_4 u0_5 u0_6 u0_8 u0_10 u0_12 u0_14 u0_16 u3_3 u5_5 u6_9 u9_7 u9_9 u12_1 u12_3 : Nat} {v0_0 v0_5 v0_6 v0_7 v0_8 v2_16 v3_5 v3_7 v3_8 v3_9 v3_11 v3_12 v3_13 v3_14 v5_1 : Value} {uu : Nat} (hN : s.heap.objs.size = (N + 1090)) (ht : s.toks = t + 1837) (hg : s.gens = #[]) (hk : AKT s.heap (kt2 w.params uu)) (h0 : Hs s 1095 (loc9 w.params (tk u0_0) v0_0 (tk u0_2) (.ref 1107) (tk u0_4) (iv 10 (tk u0_5)) (tk u0_6) (.ref 1203) (tk u0_8) (.ref 1356) (tk u0_10) v0_5 (tk u0_12) v0_6 (tk u0_14) v0_7 (tk u0_16) v0_8)) (h1 : Hs s 1106 (sh1106 w.params uu (.ref 1306))) (h2 : Hs s 1186 (sh1186 w.params uu v2_16)) (h3 : Hs s 1202 (sh1202 w.params uu (iv 0 (tk u3_3)) v3_5 v3_7 v3_8 v3_9 v3_11 v3_12 v3_13 v3_14)) (h4 : Hs s 1205 (dcO #[] 0)) (h5 : Hs s 1260 (sh1260 w.params uu v5_1 (iv 0 (tk u5_5)))) (h6 : Hs s 1273 (sh1273 w.params uu (iv 0 (tk u6_9)))) (h7 : Hs s 1287 (sh1287 w.params uu (.ref 1370))) (h8 : Hs s 1294 (ls #[(.ref 1291), (.ref 1350)] 1)) (h9 : Hs s 1349 (sh1349 w.params ua (iv 10 (tk u9_7)) (iv 0 (tk u9_9)))) (h10 : Hs s 1350 ⟨(.ref 700), (some 1349), .plain, #[]⟩) (h11 : Hs s 1356 (ls #[(.ref 1366)] 1)) (h12 : Hs s 1366 (tpO #[(sv "home" (tk u12_1)), (.bytes #[0, 0, 0, 0, 0, 0, 0, 0] (tk u12_3))] 0)) (h13 : Hs s 1370 (ls #[(.ref 1366)] 1)) :
  wp (model PP w) Γf (execs (lawSl 12 7) lawEnv) (fun g _ s' => g = .next ∧ After s s' [1095, 1106, 1186, 1202, 1205, 1260, 1273, 1287, 1294, 1349, 1350, 1356, 1366, 1370] (N + 1090) 70 (tk (t + 76)) ∧ Hs s' 1095 (loc12 w.params (tk u0_0) v0_0 (tk u0_2) (.ref 1107) (tk u0_4) (iv 10 (tk u0_5)) (tk u0_6) (.ref 1203) (tk u0_8) (.ref 1356) (tk u0_10) v0_5 (tk u0_12) v0_6 (tk u0_14) v0_7 (tk u0_16) v0_8 (tk (t + 1)) (.bool false) (tk (t + 49)) (.ref ((N + 1090) + 2)) (tk (t + 62)) (.ref ((N + 1090) + 55))) ∧ Hs s' 1106 (sh1106 w.params uu (.ref 1306)) ∧ Hs s' 1186 (sh1186 w.params uu v2_16) ∧ Hs s' 1202 (sh1202 w.params uu (iv 0 (tk u3_3)) v3_5 v3_7 v3_8 v3_9 v3_11 v3_12 v3_13 v3_14) ∧ Hs s' 1205 (dcO #[] 0) ∧ Hs s' 1260 (sh1260 w.params uu v5_1 (iv 0 (tk u5_5))) ∧ Hs s' 1273 (sh1273 w.params uu (iv 0 (tk u6_9))) ∧ Hs s' 1287 (sh1287 w.params uu (.ref ((N + 1090) + 9))) ∧ Hs s' 1294 (ls #[(.ref 1291), (.ref 1350)] 1) ∧ Hs s' 1349 (sh1349 w.params ua (iv 10 (tk u9_7)) (iv 0 (tk u9_9))) ∧ Hs s' 1350 ⟨(.ref 700), (some 1349), .plain, #[]⟩ ∧ Hs s' 1356 (ls #[(.ref 1366)] 1) ∧ Hs s' 1366 (tpO #[(sv "home" (tk u12_1)), (.bytes #[0, 0, 0, 0, 0, 0, 0, 0] (tk u12_3))] 0) ∧ Hs s' 1370 (ls #[(.ref 1366)] 1) ∧ Hs s' ((N + 1090) + 55) (ls #[(.ref 1366)] 1) ∧ Hs s' ((N + 1090) + 9) (ls #[(.ref 1366)] 1)) (fun _ _ _ => False) p s := by
  have hkb := kb_of w.params uu (l := [1095, 1106, 1186, 1202, 1205, 1260, 1273, 1287, 1294, 1349, 1350, 1356, 1366, 1370]) (by decide)
  exact Sem.wp_mono _ _ _ (fun g _ s' h => ⟨h.1, h.2.1, h.2.2 _ m0, h.2.2 _ m1, h.2.2 _ m2, h.2.2 _ m3, h.2.2 _ m4, h.2.2 _ m5, h.2.2 _ m6, h.2.2 _ m7, h.2.2 _ m8, h.2.2 _ m9, h.2.2 _ m10, h.2.2 _ m11, h.2.2 _ m12, h.2.2 _ m13, h.2.2 _ m14, h.2.2 _ m15⟩) (fun _ _ _ h => h) _ _ (tri (cs_R12L.2.2.2 w N t ua u0_0 u0_2 u0_4 u0_5 u0_6 u0_8 u0_10 u0_12 u0_14 u0_16 u3_3 u5_5 u6_9 u9_7 u9_9 u12_1 u12_3 v0_0 v0_5 v0_6 v0_7 v0_8 v2_16 v3_5 v3_7 v3_8 v3_9 v3_11 v3_12 v3_13 v3_14 v5_1 uu p) (by kernel_rfl) hkb (by decide) hN ht hg hk (mc h0 <| mc h1 <| mc h2 <| mc h3 <| mc h4 <| mc h5 <| mc h6 <| mc h7 <| mc h8 <| mc h9 <| mc h10 <| mc h11 <| mc h12 <| mc h13 <| mn) trivial (fa_nil))

end
end Mine
end
section
set_option maxRecDepth 100000
set_option linter.unusedVariables false
open PySem PySem.W PySem.Calls PyProof.Rows
open PySem.Sem (wp)
namespace Mine
noncomputable section
def r_p12ta (w : World) (N t ua u0_0 u0_2 u0_4 u0_5 u0_6 u0_8 u0_10 u0_12 u0_14 u0_16 u3_3 u5_5 u6_9 u9_7 u9_9 u12_1 u12_3 : Nat) (v0_0 v0_5 v0_6 v0_7 v0_8 v2_16 v3_5 v3_7 v3_8 v3_9 v3_11 v3_12 v3_13 v3_14 v5_1 : Value) (uu : Nat) (p : Pos) : St :=
  runE (VL w (kt2 w.params uu) [1095, 1106, 1186, 1202, 1205, 1260, 1273, 1287, 1294, 1349, 1350, 1356, 1367, 1370] (N + 1090) t [] [] belL) 11234 [(0, (loc12 w.params (tk u0_0) v0_0 (tk u0_2) (.ref 1107) (tk u0_4) (iv 10 (tk u0_5)) (tk u0_6) (.ref 1203) (tk u0_8) (.ref 1356) (tk u0_10) v0_5 (tk u0_12) v0_6 (tk u0_14) v0_7 (tk u0_16) v0_8 (tk (t + 1)) (.bool false) (tk (t + 794)) (.ref ((N + 1090) + 2)) (tk (t + 807)) (.ref ((N + 1090) + 332)))),
    (1, (sh1106 w.params uu (.ref 1306))),
    (2, (sh1186 w.params uu v2_16)),
    (3, (sh1202 w.params uu (iv 0 (tk u3_3)) v3_5 v3_7 v3_8 v3_9 v3_11 v3_12 v3_13 v3_14)),
    (4, (dcO #[] 0)),
    (5, (sh1260 w.params uu v5_1 (iv 0 (tk u5_5)))),
    (6, (sh1273 w.params uu (iv 0 (tk u6_9)))),
    (7, (sh1287 w.params uu (.ref ((N + 1090) + 9)))),
    (8, (ls #[(.ref 1291), (.ref 1350)] 1)),
    (9, (sh1349 w.params ua (iv 10 (tk u9_7)) (iv 0 (tk u9_9)))),
    (10, ⟨(.ref 700), (some 1349), .plain, #[]⟩),
    (11, (ls #[(.ref 1367)] 1)),
    (12, (tpO #[(sv "away" (tk u12_1)), (.bytes #[1, 1, 1, 1, 1, 1, 1, 1] (tk u12_3))] 0)),
    (13, (ls #[(.ref 1367)] 1)),
    (346, (ls #[] 0)),
    (23, (ls #[] 0))] .next 347 821 lawCode p [] (tree 12 7) (mkT [(loc9 w.params (tk u0_0) v0_0 (tk u0_2) (.ref 1107) (tk u0_4) (iv 10 (tk u0_5)) (tk u0_6) (.ref 1203) (tk u0_8) (.ref 1356) (tk u0_10) v0_5 (tk u0_12) v0_6 (tk u0_14) v0_7 (tk u0_16) v0_8),
    (sh1106 w.params uu (.ref 1306)),
    (sh1186 w.params uu v2_16),
    (sh1202 w.params uu (iv 0 (tk u3_3)) v3_5 v3_7 v3_8 v3_9 v3_11 v3_12 v3_13 v3_14),
    (dcO #[] 0),
    (sh1260 w.params uu v5_1 (iv 0 (tk u5_5))),
    (sh1273 w.params uu (iv 0 (tk u6_9))),
    (sh1287 w.params uu (.ref 1370)),
    (ls #[(.ref 1291), (.ref 1350)] 1),
    (sh1349 w.params ua (iv 10 (tk u9_7)) (iv 0 (tk u9_9))),
    ⟨(.ref 700), (some 1349), .plain, #[]⟩,
    (ls #[(.ref 1367)] 1),
    (tpO #[(sv "away" (tk u12_1)), (.bytes #[1, 1, 1, 1, 1, 1, 1, 1] (tk u12_3))] 0),
    (ls #[(.ref 1367)] 1)] 0 .nil) 0 0 0 (dec [0x14c0112220013c19111111111111311111111111101001010c1111121221112222, 0x11111111111111131111111111110001010c116c014c13c00010014c13c00010014c13c000114c, 0x1111111111111119111111111111311111111111110c1017c111111111111111, 0x1ac1cc018c0fc000118c1122211c001000ec001ac1018c0fc000100011222018c0cc33118c01122200fc10c011c, 0x10001122201dc0cc3311dc01122200fc09991111111111111111311111111111110c1ac, 0x1ec101fc1122211c000101fc122c020c0ec00010020c0ec00010020c0ec0001020c011222000ec001dc0fc01dc, 0x102ac0112220029c311111111111101001027c1111100110c000001fc010c126c01dc0fc00011dc1ec, 0x1111111111033311111111111111110001027c12cc02ac29c0001002ac29c0001002ac29c002ac, 0x1110111111111111100010027c100a0001012dca11222aa19111111111111311, 0xcc00010027c100a00012dc1122211111111111111191111111111113111111111, 0x112221111111111111119111111111111311111111111127cb1001110cc1111, 0x112220024c0031c30c00010131c011222030c28c1ec28c011ec28c1ec27c2fc00a00012dcb100111011110cc27c, 0x1111111111111131111111111110001010c134c032c24c00010032c24c00010032c24c0001032c, 0x222aa911111111111101001036c11111091111111111111101001035c1111110c9, 0x100111011110cc0036c100a000137c11222011111111111110036c100a00010137ca11, 0x10cc38c111b100111011110cc01038c11111b01111011101110cc0010c100035c101122236cb, 0x2203ac39c00013ac0003bc03ac39c00013ac3bc3ac011222039c11b100111011110cc38c1b1001110cc111, 0x13fc40c3fc01122203ec1011211131111111111110110010c1003bc3dc03ac39c00013ac0003bc112, 0x45c01001046c1047c11110001010c10040c42c03fc3ec00013fc00040c1122203fc3ec00013fc00040c03fc3ec03fc, 0x1004bc44c0001004bc44c000104bc0112220044c0048c45c000100011222048c0cc33148c01122245c, 0x100100104fc1111104ac11111311111111111111111111111147c100104ac14dc04bc44c4bc, 0x2112221111110010023c0052c1050c43c000100011222050c0cc33150c011222043c4fc1111222, 0x49c146c11000004ac046c156c048c45c000148c00049c11122200151c10052c54c050c43c000150c00051c152c1122, 0x111111111111111111111111111311111111111101057c1111147c1111222049c1, 0x5cc0cc3315cc111111222113111111111111011105bc111147c1311111111111157c111, 0x15bc141111111111111121115ec31111111111115bc005ec100000110001005cc11222, 0x111115bc005ec1000001100015cc0005dc1141111111111111121115ec311111111111, 0x11111111111121115ec31111111111115bc111111111111111121115ec31111111, 0x151111111111111121115ec31111111111115bc005ec1000001100015cc0005dc11111, 0x1067c11005ec66c0001100015cc0005dc1151111111111111121115ec31111111111115bc, 0x1222062c06ac5dc00016ac00067c1111222060c06ac5dc000106ac01122205dc00000069c00000105dc67c, 0x112111311111111111147c1146c6cc06ac5dc00016ac00067c1111222064c06ac5dc00016ac00067c111, 0x72c1111146c006fc71c06ec6dc00016ec0006fc1122206ec6dc00016ec0006fc06ec6dc00016ec6fc6ec01122206dc146c, 0x44c0074c45c00010174c011222045c00011001001073c11111000100100100100100172c, 0x1078c0112220063c020067c00001073c177c075c44c00010075c44c00010075c44c0001075c44c11222, 0x2207cc0cc3317cc011222043c0107bc1111101000110001073c17ac078c63c00010078c63c00010078c63c, 0x11222011222014111011222007fc10010023c0107fc111110107ec107cc43c0001007cc112, 0x2201112220112220112220112220080c10010023c01080c1111101112220112227fc, 0x11001086c1111101085c1083c81c000100011222083c0cc33183c011222081c01082c111111112, 0x2220000100086c10112221110112220087c100100010188c1112221111087c1111186c, 0x608ac110111122211001122201001089c111110101110111011111111111186c11, 0x1189c00000108ac0010089c1000000001018cc0000112220000108bc11111011089c18ac, 0x7dc10007fc110010023c80c084c10085c90c083c81c000183c00084c110000000008ac1189c118ec000018cc, 0x94c59c00010094c59c0001094c0112220059c01001001001093c1111107dc1007ec92c07cc43c00017cc7dc, 0x100197c101101099c111110111001098c1111173c000112220001093c196c094c59c000194c, 0x19dc0000112220000109cc111111001100100109bc11111001100109ac1111198c097c1, 0x1112221100112220100109ec11111011100109ac10112221101009bc100000009dc1, 0x109fc001009ec100000000101a1c000011222000010a0c1111101109ec10609fc119ec1, 0x111111198c11001000100197c101101098c110000000009fc119ec11a3c00001a1c00119ec09fc, 0xa5c10010097c010010010a5c111110110110111098c101122200011110111010010a4c, 0x110010010010a6c11111a5c0010097ca5c0010097ca5c0010097c01112220001111110110a5c, 0x11198c11111a6c1a9cabc0a8ca7c0001a8c00a9c0a8ca7c0001a8c0a7ca8c011222000000a7c1111011011a6c1, 0x100afcaec000100afcaec000100afcaec00010afc01122200aec173cadc074c45c000174c073c111111198c11, 0x45c000101b3c011222045c000110010010b2c1111100011122201001001072c1b1c0afcaec0afc, 0x112220063c020067c000010b2c1b6c0b4c44c000100b4c44c000100b4c44c00010b4c0112220044c00b3c, 0x31bbc011222043c010bac11111010001100010b2c1b9c0b7c63c000100b7c63c000100b7c63c00010b7c, 0x1122201411101122200bec10010023c010bec11111010bdc10bbc43c0001000112220bbc0cc3, 0x22201122201122201122200bfc10010023c010bfc111110111222011222011222bec, 0xc5c11111010c4c10c2cc0c0001000112220c2c0cc331c2c0112220c0c010c1c11111111222bfc111, 0x1000c5c101122211101122200c6c1001000101c7c11122211110c6c11111011001c5c, 0x1111222110011222010010c8c111110101110111011111111111101122200c5c, 0x10c9c00100c8c100000000101cbc000011222000010cac111110110c8c1060c9c11c8c, 0xbec110010023cbfc0c3c100c4ccfc0c2cc0c0001c2c000c3c11000000000c9c11c8c11cdc00001cbc0011c8cc9c, 0x100d3c59c00010d3c0112220059c010010010010d2c111110bcc100bdcd1c0bbc43c0001bbc000bcc10bec, 0x1d6c1011010d8c1111101110010d7c11111b2c0001122200010d2c1d5c0d3c59c000100d3c59c00d3c, 0x11222000010dbc11111100110010010dac1111100110010d9c11111d7c00100010d6c, 0x110011222010010ddc1111101110010d9c1011222110100dac100000000101dcc00dbc, 0x100ddc100000000101e0c000011222000010dfc111110110ddc1060dec11ddc1111222, 0x1d7c110010001001d6c1011010d7c11000000000dec11ddc11e2c00001e0c0011ddc0000010dec, 0xd6c010010010e4c1111101101101110d7c101122200011110111010010e3c111111, 0x10010e5c11111e4c00100d6ce4c00100d6ce4c00100d6c011122200011111101100e4c1001d6c, 0x111e5c1e8ceac0e7ce6c0001e7c00e8c0e7ce6c0001e7c0e6ce7c011222000000e6c11110110110111001e5c, 0xb01111011101110cc0010c101122201122272cb2cecc0b3c45c0001b3c0b2c1111111011111d7c11, 0x111101111111111111111111111111111113111111111111010edc1111110c11, 0x112220f2c0cc331f2c11111122211311111111111101110f1c111110c1311111111, 0x111111111f1c14111111111111112111f4c3111111111111f1c00f4c1000001100f2c1, 0x3111111111111f1c00f4c100000110001f2c000f3c114111111111111112111f4c3111, 0xf3c111111111111111112111f4c3111111111111f1c11111111111111112111f4c, 0x1111111f1c15111111111111112111f4c3111111111111f1c00f4c100000110001f2cf3c, 0x10f3c0010fdc1100f4cfcc000110001f2c000f3c115111111111111112111f4c311111, 0xd000fdc11112220f8c000df3c000100d000fdc11112220f6c000df3c0001000d0112220f3c000000ffcf3c, 0x10104d011222045c00011001001003d1111110c02d000df3c000100d000fdc11112220fac000df3c0000d1, 0x2200f9c0200fdc00001003d107d005d44c00010005d44c00010005d44c0001005d0112220044c0004d45c0004d, 0x11222043c0100bd1111101000110001003d10ad008df9c00010008df9c00010008df9c0001008df9c112, 0x2014111011222000fd10010023c0100fd111110100ed100cd43c00010001122200cd0cc3310cd43c, 0x112220112220112220010d10010023c01010d1111101112220112220112220fd1122, 0x1101015d1013d11d000100011222013d0cc33113d011222011d01012d11111111222011122210d, 0x16d10112221110112220017d100100010118d1112221111017d11111011001016d111, 0x22211001122201001019d111110101110111011111111111101122200001016d, 0x101ad0010019d1000000001011cd0000112220000101bd11111011019d10601ad1119d1111, 0x10023c10d014d10015d20d013d11d000113d00014d110000000001ad1119d111ed000011cd001119d00001ad, 0xefc0001024d01122200efc01001001001023d1111100dd1000ed22d00cd43c00010cd0000dd10000fd11, 0x1101029d111110111001028d1111103d000112220001023d126d024defc00010024defc00010024d, 0x220000102cd111111001100100102bd11111001100102ad1111128d001000100127d129d, 0x112220100102ed11111011100102ad10112221101002bd1000000001012dd0002cd112, 0x2ed10000000010131d00001122200001030d1111101102ed10602fd11011112221102ed, 0x1000100127d101101028d110000000002fd112ed1133d0000131d00112ed00000102fd0012ed, 0x1001035d111110110110111028d10112220001111011101001034d111111128d11, 0x1036d1111135d0010027d35d0010027d35d0010027d01112220001111110110035d10010027d35d1, 0x139d3bd038d37d000138d0039d038d37d000138d037d38d01122200000037d11110110110111001001036d, 0x1b01111011101110cc0100103ed1111103d3dd004d45c000104d003d111111101111128d1111136d, 0x222040d11b100111011110cc3fd1b100111011110cc3fd111b100111011110cc0103fd1111, 0x131c1122200003ed10042d44d041d40d000141d00042d11222041d40d000141d00042d041d40d000141d42d41d40d11, 0x4cd48d2049d4bd047d12c000100011222047d0cc33147d011222012c222110c1122200112c110c1146d031c30c031c, 0x81152d082224ed52d4ed04fd51d04dd12c00010001122204dd0cc3314dd011222012c2114cd48d8114cd0822248d, 0x11222054d661666651111111111110111053d1111151111111111111121152d4ed, 0x12311111111111121122221122200156d157d59d00066000100011222055d0cc33155d66, 0x1222001000ec005dd105bd0dc00010001122205bd0cc3315bd01122200dc2110191101922215ad, 0x15cd19c8115cd0822219c5cd19c21911111111111131111111111112005dd2215fd05bd0dc00015bd1, 0x222aa911111111111101001060d11111911111111111111311111111111121, 0x100111011110cc0060d100a000161d11222011111111111110060d100a00010161da11, 0x63d1064d66d062d12c000100011222062d0cc33162d011222012c2111b100111011110cc01122260db, 0x112226ad067d63d000167d68d67d01122263d]) .nil
theorem cs_R12ta (w : World) (N t ua u0_0 u0_2 u0_4 u0_5 u0_6 u0_8 u0_10 u0_12 u0_14 u0_16 u3_3 u5_5 u6_9 u9_7 u9_9 u12_1 u12_3 : Nat) (v0_0 v0_5 v0_6 v0_7 v0_8 v2_16 v3_5 v3_7 v3_8 v3_9 v3_11 v3_12 v3_13 v3_14 v5_1 : Value) (uu : Nat) (p : Pos) : okR (r_p12ta w N t ua u0_0 u0_2 u0_4 u0_5 u0_6 u0_8 u0_10 u0_12 u0_14 u0_16 u3_3 u5_5 u6_9 u9_7 u9_9 u12_1 u12_3 v0_0 v0_5 v0_6 v0_7 v0_8 v2_16 v3_5 v3_7 v3_8 v3_9 v3_11 v3_12 v3_13 v3_14 v5_1 uu p) := by kernel_rfl
theorem p12ta {w : World} {s : Shared} {p : Pos} {N t ua u0_0 u0_2 u0_4 u0_5 u0_6 u0_8 u0_10 u0_12 u0_14 u0_16 u3_3 u5_5 u6_9 u9_7 u9_9 u12_1 u12_3 : Nat} {v0_0 v0_5 v0_6 v0_7 v0_8 v2_16 v3_5 v3_7 v3_8 v3_9 v3_11 v3_12 v3_13 v3_14 v5_1 : Value} {uu : Nat} (hN : s.heap.objs.size = (N + 1090)) (ht : s.toks = t + 1837) (hg : s.gens = #[]) (hk : AKT s.heap (kt2 w.params uu)) (h0 : Hs s 1095 (loc9 w.params (tk u0_0) v0_0 (tk u0_2) (.ref 1107) (tk u0_4) (iv 10 (tk u0_5)) (tk u0_6) (.ref 1203) (tk u0_8) (.ref 1356) (tk u0_10) v0_5 (tk u0_12) v0_6 (tk u0_14) v0_7 (tk u0_16) v0_8)) (h1 : Hs s 1106 (sh1106 w.params uu (.ref 1306))) (h2 : Hs s 1186 (sh1186 w.params uu v2_16)) (h3 : Hs s 1202 (sh1202 w.params uu (iv 0 (tk u3_3)) v3_5 v3_7 v3_8 v3_9 v3_11 v3_12 v3_13 v3_14)) (h4 : Hs s 1205 (dcO #[] 0)) (h5 : Hs s 1260 (sh1260 w.params uu v5_1 (iv 0 (tk u5_5)))) (h6 : Hs s 1273 (sh1273 w.params uu (iv 0 (tk u6_9)))) (h7 : Hs s 1287 (sh1287 w.params uu (.ref 1370))) (h8 : Hs s 1294 (ls #[(.ref 1291), (.ref 1350)] 1)) (h9 : Hs s 1349 (sh1349 w.params ua (iv 10 (tk u9_7)) (iv 0 (tk u9_9)))) (h10 : Hs s 1350 ⟨(.ref 700), (some 1349), .plain, #[]⟩) (h11 : Hs s 1356 (ls #[(.ref 1367)] 1)) (h12 : Hs s 1367 (tpO #[(sv "away" (tk u12_1)), (.bytes #[1, 1, 1, 1, 1, 1, 1, 1] (tk u12_3))] 0)) (h13 : Hs s 1370 (ls #[(.ref 1367)] 1)) :
  wp (model PP w) Γf (execs (lawSl 12 7) lawEnv) (fun g _ s' => g = .next ∧ After s s' [1095, 1106, 1186, 1202, 1205, 1260, 1273, 1287, 1294, 1349, 1350, 1356, 1367, 1370] (N + 1090) 347 (tk (t + 821)) ∧ Hs s' 1095 (loc12 w.params (tk u0_0) v0_0 (tk u0_2) (.ref 1107) (tk u0_4) (iv 10 (tk u0_5)) (tk u0_6) (.ref 1203) (tk u0_8) (.ref 1356) (tk u0_10) v0_5 (tk u0_12) v0_6 (tk u0_14) v0_7 (tk u0_16) v0_8 (tk (t + 1)) (.bool false) (tk (t + 794)) (.ref ((N + 1090) + 2)) (tk (t + 807)) (.ref ((N + 1090) + 332))) ∧ Hs s' 1106 (sh1106 w.params uu (.ref 1306)) ∧ Hs s' 1186 (sh1186 w.params uu v2_16) ∧ Hs s' 1202 (sh1202 w.params uu (iv 0 (tk u3_3)) v3_5 v3_7 v3_8 v3_9 v3_11 v3_12 v3_13 v3_14) ∧ Hs s' 1205 (dcO #[] 0) ∧ Hs s' 1260 (sh1260 w.params uu v5_1 (iv 0 (tk u5_5))) ∧ Hs s' 1273 (sh1273 w.params uu (iv 0 (tk u6_9))) ∧ Hs s' 1287 (sh1287 w.params uu (.ref ((N + 1090) + 9))) ∧ Hs s' 1294 (ls #[(.ref 1291), (.ref 1350)] 1) ∧ Hs s' 1349 (sh1349 w.params ua (iv 10 (tk u9_7)) (iv 0 (tk u9_9))) ∧ Hs s' 1350 ⟨(.ref 700), (some 1349), .plain, #[]⟩ ∧ Hs s' 1356 (ls #[(.ref 1367)] 1) ∧ Hs s' 1367 (tpO #[(sv "away" (tk u12_1)), (.bytes #[1, 1, 1, 1, 1, 1, 1, 1] (tk u12_3))] 0) ∧ Hs s' 1370 (ls #[(.ref 1367)] 1) ∧ Hs s' ((N + 1090) + 332) (ls #[] 0) ∧ Hs s' ((N + 1090) + 9) (ls #[] 0)) (fun _ _ _ => False) p s := by
  have hkb := kb_of w.params uu (l := [1095, 1106, 1186, 1202, 1205, 1260, 1273, 1287, 1294, 1349, 1350, 1356, 1367, 1370]) (by decide)
  exact Sem.wp_mono _ _ _ (fun g _ s' h => ⟨h.1, h.2.1, h.2.2 _ m0, h.2.2 _ m1, h.2.2 _ m2, h.2.2 _ m3, h.2.2 _ m4, h.2.2 _ m5, h.2.2 _ m6, h.2.2 _ m7, h.2.2 _ m8, h.2.2 _ m9, h.2.2 _ m10, h.2.2 _ m11, h.2.2 _ m12, h.2.2 _ m13, h.2.2 _ m14, h.2.2 _ m15⟩) (fun _ _ _ h => h) _ _ (tri (cs_R12ta w N t ua u0_0 u0_2 u0_4 u0_5 u0_6 u0_8 u0_10 u0_12 u0_14 u0_16 u3_3 u5_5 u6_9 u9_7 u9_9 u12_1 u12_3 v0_0 v0_5 v0_6 v0_7 v0_8 v2_16 v3_5 v3_7 v3_8 v3_9 v3_11 v3_12 v3_13 v3_14 v5_1 uu p) (by kernel_rfl) hkb (by decide) hN ht hg hk (mc h0 <| mc h1 <| mc h2 <| mc h3 <| mc h4 <| mc h5 <| mc h6 <| mc h7 <| mc h8 <| mc h9 <| mc h10 <| mc h11 <| mc h12 <| mc h13 <| mn) trivial (fa_nil))

end
end Mine
end
section
set_option maxRecDepth 100000
set_option linter.unusedVariables false
open PySem PySem.W PySem.Calls PyProof.Rows
open PySem.Sem (wp)
namespace Mine
noncomputable section
def r_p12tb (w : World) (N t ua u0_0 u0_2 u0_4 u0_5 u0_6 u0_8 u0_10 u0_12 u0_14 u0_16 u3_3 u5_5 u6_9 u9_7 u9_9 u12_1 u12_3 u13_1 u13_3 : Nat) (v0_0 v0_5 v0_6 v0_7 v0_8 v2_16 v3_5 v3_7 v3_8 v3_9 v3_11 v3_12 v3_13 v3_14 v5_1 : Value) (uu : Nat) (p : Pos) : St :=
  runE (VL w (kt2 w.params uu) [1095, 1106, 1186, 1202, 1205, 1260, 1273, 1287, 1294, 1349, 1350, 1356, 1366, 1375, 1378] (N + 1090) t [] [] belL) 11405 [(0, (loc12 w.params (tk u0_0) v0_0 (tk u0_2) (.ref 1107) (tk u0_4) (iv 10 (tk u0_5)) (tk u0_6) (.ref 1203) (tk u0_8) (.ref 1356) (tk u0_10) v0_5 (tk u0_12) v0_6 (tk u0_14) v0_7 (tk u0_16) v0_8 (tk (t + 1)) (.bool false) (tk (t + 798)) (.ref ((N + 1090) + 2)) (tk (t + 814)) (.ref ((N + 1090) + 335)))),
    (1, (sh1106 w.params uu (.ref 1306))),
    (2, (sh1186 w.params uu v2_16)),
    (3, (sh1202 w.params uu (iv 0 (tk u3_3)) v3_5 v3_7 v3_8 v3_9 v3_11 v3_12 v3_13 v3_14)),
    (4, (dcO #[] 0)),
    (5, (sh1260 w.params uu v5_1 (iv 0 (tk u5_5)))),
    (6, (sh1273 w.params uu (iv 0 (tk u6_9)))),
    (7, (sh1287 w.params uu (.ref ((N + 1090) + 9)))),
    (8, (ls #[(.ref 1291), (.ref 1350)] 1)),
    (9, (sh1349 w.params ua (iv 10 (tk u9_7)) (iv 0 (tk u9_9)))),
    (10, ⟨(.ref 700), (some 1349), .plain, #[]⟩),
    (11, (ls #[(.ref 1366), (.ref 1375)] 2)),
    (12, (tpO #[(sv "home" (tk u12_1)), (.bytes #[0, 0, 0, 0, 0, 0, 0, 0] (tk u12_3))] 0)),
    (13, (tpO #[(sv "away" (tk u13_1)), (.bytes #[1, 1, 1, 1, 1, 1, 1, 1] (tk u13_3))] 0)),
    (14, (ls #[(.ref 1366), (.ref 1375)] 1)),
    (350, (ls #[(.ref 1366)] 1)),
    (24, (ls #[(.ref 1366)] 1))] .next 350 828 lawCode p [] (tree 12 7) (mkT [(loc9 w.params (tk u0_0) v0_0 (tk u0_2) (.ref 1107) (tk u0_4) (iv 10 (tk u0_5)) (tk u0_6) (.ref 1203) (tk u0_8) (.ref 1356) (tk u0_10) v0_5 (tk u0_12) v0_6 (tk u0_14) v0_7 (tk u0_16) v0_8),
    (sh1106 w.params uu (.ref 1306)),
    (sh1186 w.params uu v2_16),
    (sh1202 w.params uu (iv 0 (tk u3_3)) v3_5 v3_7 v3_8 v3_9 v3_11 v3_12 v3_13 v3_14),
    (dcO #[] 0),
    (sh1260 w.params uu v5_1 (iv 0 (tk u5_5))),
    (sh1273 w.params uu (iv 0 (tk u6_9))),
    (sh1287 w.params uu (.ref 1378)),
    (ls #[(.ref 1291), (.ref 1350)] 1),
    (sh1349 w.params ua (iv 10 (tk u9_7)) (iv 0 (tk u9_9))),
    ⟨(.ref 700), (some 1349), .plain, #[]⟩,
    (ls #[(.ref 1366), (.ref 1375)] 2),
    (tpO #[(sv "home" (tk u12_1)), (.bytes #[0, 0, 0, 0, 0, 0, 0, 0] (tk u12_3))] 0),
    (tpO #[(sv "away" (tk u13_1)), (.bytes #[1, 1, 1, 1, 1, 1, 1, 1] (tk u13_3))] 0),
    (ls #[(.ref 1366), (.ref 1375)] 1)] 0 .nil) 0 0 0 (dec [0x15c0112220014c19111111111111311111111111101001011c1111121221112222, 0x11111111111111131111111111110001011c117c015c14c00010015c14c00010015c14c000115c, 0x1111111111111119111111111111311111111111111c1018c111111111111111, 0x119c0001ac11bc1122212c001000ec001bc1019c10c000100011222019c0cc33119c011222010c11c012c, 0x111111111111111311111111111111c001bc1dc019c10c000119c1122212c001000fc001bc1019c10c, 0xec00010021c0ec0001021c011222000ec001ec10c00010001122201ec0cc3311ec011222010c11c9991, 0x24c0fc00010024c0fc0001024c011222000fc001ec10c00011ec1122212c0001020c123c021c0ec00010021c, 0x102bc1111100111c0000020c011c12ac01ec10c00011ec0001fc1020c1122212c0001020c126c024c0fc0024c1, 0x111000102bc130c02ec2dc0001002ec2dc0001002ec2dc000102ec011222002dc31111111111112bc1, 0xa00010131ca11222aa1911111111111131111111111112bc3331111111111111, 0x111111111191111111111113111111111111011111111111110001002bc1031c, 0x111111131111111111112bcb100111011110cc0001002bc100a000131c1122211111, 0x34c2cc1fc2cc011fc2cc1fc2bc33c00a000131cb100111011110cc02bc11222111111111111111911111, 0x1011c138c036c28c00010036c28c00010036c28c0001036c0112220028c0035c34c00010135c01122234c, 0x111091111111111111101001039c1111111c9111111111111113111111111111, 0x2201111111111111003ac100a0001013bca11222aa91111111111110100103ac11, 0x1b01111011101110cc0011c100039c10112223acb100111011110cc003ac100a00013bc112, 0x22203dc11b100111011110cc3cc1b100111011110cc3cc111b100111011110cc0103cc1111, 0x11111110110011c1003fc41c03ec3dc00013ec0003fc1122203ec3dc00013ec0003fc03ec3dc00013ec3fc3ec3dc11, 0x43c42c000143c00044c11222043c42c000143c00044c043c42c000143c44c43c011222042c111c112111311111, 0x48c004cc49c00010001122204cc0cc3314cc011222049c0100104ac104bc11110001011c10044c46c43c, 0x111111111111111111114bc100104ec151c04fc48c0001004fc48c0001004fc48c000104fc48c11222, 0x100011222054c0cc33154c011222047c0111122201001001053c1111104ec1111131111, 0x11122200155c10056c58c054c47c000154c00055c156c11222112221111110010027c0056c1054c47c054c, 0x31111111111110105bc111114bc11112220014dc14ac11000004ec04ac15ac04cc49c00014cc0004dc, 0x1111011105fc11114bc131111111111115bc111111111111111111111111111111, 0x1111111115fc0062c10000011000100011222060c0cc33160c11111122211311111111, 0x1411111111111111211162c31111111111115fc1411111111111111211162c3111, 0x1115fc1111111111111111211162c31111111111115fc0062c10000011000160c00061c1, 0x11111115fc0062c10000011000160c00061c11111111111111111211162c3111111111, 0x11111111111111211162c31111111111115fc1511111111111111211162c311111, 0x6ec61c000106ec011222061c0000006dc000001061c00106bc110062c6ac00011000160c00061c115, 0x16ec0006bc1111222068c06ec61c00016ec0006bc1111222066c06ec61c00016ec0006bc1111222064c, 0x2072c71c000172c00073c072c71c000172c73c72c011222071c14ac11211131111111111114bc114ac70c06ec61c, 0x1001077c111110001001001001001001076c111114ac0073c75c072c71c000172c00073c1122, 0x17bc079c48c00010079c48c00010079c48c0001079c0112220048c0078c49c00010178c011222049c0077c11, 0x1000110001077c17ec07cc67c0001007cc67c0001007cc67c000107cc0112220067c02006bc00001077c, 0x10027c01083c1111101082c1080c47c000100011222080c0cc33180c011222047c0107fc1111177c, 0x84c10010027c01084c1111101112220112220112220112220141110112220083c1, 0x11222087c0cc33187c011222085c01086c11111111222011122201122201122284c11222, 0x2008bc10010001018cc111222111108bc1111101100108ac1111101089c1087c85c00010087c, 0x8dc1111101011101110111111111111011222000010008ac10112221118bc1122, 0x10190c0000112220000108fc1111101108dc10608ec11011112221100112220108dc1, 0x187c00088c110000000008ec118dc1192c0000190c00118dc00000108ec001008dc100000090c, 0x1001001001097c11111081c10082c96c080c47c000180c00081c100083c110010027c84c088c10089c94c087c85c, 0x109cc1111177c000112220001097c19ac098c5dc00010098c5dc00010098c5dc0001098c011222005dc97c, 0x1100100109fc11111001100109ec111119cc00100010019bc10110109dc11111011109cc, 0x11100109ec10112221101009fc100000000101a1c000011222000010a0c11111109fc, 0x11222000010a4c111110110a2c1060a3c1101111222110011222010010a2c11111, 0x9cc11000000000a3c11a2c11a7c00001a5c0011a2c0000010a3c00100a2c100000000101a5c0a4c, 0x11011109cc101122200011110111010010a8c11111119cc1100100010019bc10119cc1, 0x1009bca9c001009bc011122200011111101100a9c1001009bc010010010a9c111110119cc, 0x1acc0abcacc011222000000abc111101101101110010010010aac11111a9c001009bca9c9bc, 0xb3c01122200b2c177cb1c078c49c000178c077c11111110111119cc11111aac1adcafc0accabc0001acc00adc0accabc, 0xb6c1111100011122201001001076c1b5c0b3cb2c000100b3cb2c000100b3cb2c000100b3cb2c0001b3c, 0x100b8c48c000100b8c48c00010b8c0112220048c00b7c49c000101b7c011222049c000110010b6c1, 0x10b6c1bdc0bbc67c000100bbc67c000100bbc67c00010bbc0112220067c02006bc000010b6c1bac0b8c48cb8c, 0x10c2c11111010c1c10bfc47c0001000112220bfc0cc331bfc011222047c010bec111110100b6c11, 0x10027c010c3c11111011122201122201122201122201411101122200c2c10010027c, 0xc6c0cc331c6c0112220c4c010c5c11111111222011122201122201122201122200c3c1027c, 0x1000101cbc11122211110cac111110110010c9c11111010c8c10c6cc4c000100011222c6c, 0x10101110111011111111111101122200001000c9c101122211101122200cac1cbc, 0x11222000010cec111110110ccc1060cdc1101111222110011222010010ccc1111, 0xc7c11000000000cdc11ccc11d1c00001cfc0011ccc0000010cdc00100ccc100000000101cfccec, 0x10010d6c111110c0c100c1cd5c0bfc47c0001bfc000c0c1000c2c110010027cc3c0c7c100c8cd3c0c6cc4c0001c6cc7c, 0x11b6c0001122200010d6c1d9c0d7c5dc000100d7c5dc000100d7c5dc00010d7c011222005dc010010d6c, 0x10dec1111100110010ddc11111dbc0010001001dac1011010dcc1111101110010dbc111, 0x10ddc1011222110100dec100000000101e0c000011222000010dfc1111110011001dec, 0x2000010e3c111110110e1c1060e2c1101111222110011222010010e1c1111101110ddc, 0xe2c11e1c11e6c00001e4c0011e1c0000010e2c00100e1c100000000101e4c000e3c1122, 0xdbc101122200011110111010010e7c1111111dbc110010001001dac1011010dbc110e2c, 0x100dac011122200011111101100e8c100100dac010010010e8c11111011011dbc111, 0xeacebc011222000000eac111101101101110010010010e9c11111e8c00100dace8c00100dace8c, 0x122276cb6cf0c0b7c49c0001b7c0b6c1111111011111dbc11111e9c1ecceec0ebceac0001ebc00ecc0ebceac0001ebceac, 0x111111113111111111111010f1c1111111c11b01111011101110cc0011c101122276c1, 0x11111111111101110f5c111111c13111111111111f1c1111111111111111111111, 0x111f8c3111111111111f5c00f8c100000110001000112220f6c0cc331f6c111111222113, 0x1f6c000f7c114111111111111112111f8c3111111111111f5c14111111111111112, 0x11111111111f5c11111111111111112111f8c3111111111111f5c00f8c100000110f6c, 0x1f8c3111111111111f5c00f8c100000110001f6c000f7c111111111111111112111f8c31, 0xf6c000f7c115111111111111112111f8c3111111111111f5c1511111111111111211, 0x1112220fac004df7c0001004d0112220f7c00000003d0000010f7c001001d1100f8c00d0001100f6c1, 0x11111c06d004df7c000104d00001d11112220fec004df7c000104d00001d11112220fcc004df7c000104d00001d1, 0x9d48c00010009d48c0001009d0112220048c0008d49c00010108d011222049c00011001001007d11, 0x7d10ed00cdfdc0001000cdfdc0001000cdfdc000100cd01122200fdc020001d00001007d10bd009d48c000109d, 0x1111101012d1010d47c000100011222010d0cc33110d011222047c0100fd1111101000110007d1, 0x1014d1111101112220112220112220112220141110112220013d10010027c01013d, 0x117d011222015d01016d1111111122201112220112220112220112220014d10010027c, 0x1011cd111222111101bd1111101100101ad1111101019d1017d15d000100011222017d0cc33, 0x11101110111111111111011222000010001ad1011222111011222001bd100101cd, 0x12220000101fd1111101101dd10601ed11011112221100112220100101dd11111011ad, 0x10000000001ed111dd1122d0000120d00111dd00000101ed001001dd10000000010120d0001fd1, 0x27d11111011d10012d26d010d47c000110d00011d100013d110010027c14d018d10019d24d017d15d000117d00018d1, 0x112220001027d12ad028df3c00010028df3c00010028df3c0001028d01122200f3c01001001027d1, 0x11111001100102ed111112cd00100010012bd10110102dd11111011100102cd1111107d27d, 0x112221101002fd10000000010131d00001122200001030d111111001100100102fd, 0x1034d11111011032d106033d110111122211001122201001032d11111011100102ed1, 0x33d1132d1137d0000135d001132d000001033d0010032d10000000010135d0000112220034d, 0x112220001111011101001038d11111112cd1100100010012bd10110102cd110000033d, 0x2bd01112220001111110110039d1001002bd01001001039d11111011011011102cd138d, 0x12220000003bd1111011011011100100100103ad1111139d001002bd39d001002bd39d0012bd, 0x107d41d008d49c000108d007d11111110111112cd111113ad13dd3fd03cd3bd00013cd003dd03cd3bd00013cd03bd3cd3bd1, 0x11011110cc43d111b100111011110cc01043d11111b01111011101110cc01001042d1111, 0x46d11222045d44d000145d00046d045d44d000145d46d45d011222044d11b100111011110cc43d1b100cc1, 0x4bd011222013c222111c1122200113c111c114ad035c34c000135c11222000042d10046d48d045d44d000145d46d, 0x222051d0cc33151d011222013c21150d4cd81150d082224cd50d4cd204dd4fd04bd13c00010001122204bd0cc331, 0x110111057d1111151111111111111121156d52d81156d0822252d56d52d053d55d051d13c00010051d11, 0x15ad15bd5dd00066000100011222059d0cc33159d660011222058d661666651111111111, 0x2205fd0cc3315fd01122200dc2110191101922215ed123111111111111211222211222, 0x15fd11222001000fc0061d105fd0dc00015fd00060d161d11222001000ec0061d105fd0dc0001005fd112, 0x1121160d1ac81160d082221ac60d1ac219111111111111311111111111120061d22163d05fd0dc05fd, 0x65da11222aa911111111111101001064d1111191111111111111131111111111, 0x2264db100111011110cc0064d100a000165d11222011111111111110064d100a000165d1, 0x222067d1068d6ad066d13c000100011222066d0cc33166d011222013c2111b100111011110cc64d112, 0x112226ed06bd67d00016bd6cd6bd67d11]) .nil
theorem cs_R12tb (w : World) (N t ua u0_0 u0_2 u0_4 u0_5 u0_6 u0_8 u0_10 u0_12 u0_14 u0_16 u3_3 u5_5 u6_9 u9_7 u9_9 u12_1 u12_3 u13_1 u13_3 : Nat) (v0_0 v0_5 v0_6 v0_7 v0_8 v2_16 v3_5 v3_7 v3_8 v3_9 v3_11 v3_12 v3_13 v3_14 v5_1 : Value) (uu : Nat) (p : Pos) : okR (r_p12tb w N t ua u0_0 u0_2 u0_4 u0_5 u0_6 u0_8 u0_10 u0_12 u0_14 u0_16 u3_3 u5_5 u6_9 u9_7 u9_9 u12_1 u12_3 u13_1 u13_3 v0_0 v0_5 v0_6 v0_7 v0_8 v2_16 v3_5 v3_7 v3_8 v3_9 v3_11 v3_12 v3_13 v3_14 v5_1 uu p) := by kernel_rfl
theorem p12tb {w : World} {s : Shared} {p : Pos} {N t ua u0_0 u0_2 u0_4 u0_5 u0_6 u0_8 u0_10 u0_12 u0_14 u0_16 u3_3 u5_5 u6_9 u9_7 u9_9 u12_1 u12_3 u13_1 u13_3 : Nat} {v0_0 v0_5 v0_6 v0_7 v0_8 v2_16 v3_5 v3_7 v3_8 v3_9 v3_11 v3_12 v3_13 v3_14 v5_1 : Value} {uu : Nat} (hN : s.heap.objs.size = (N + 1090)) (ht : s.toks = t + 1837) (hg : s.gens = #[]) (hk : AKT s.heap (kt2 w.params uu)) (h0 : Hs s 1095 (loc9 w.params (tk u0_0) v0_0 (tk u0_2) (.ref 1107) (tk u0_4) (iv 10 (tk u0_5)) (tk u0_6) (.ref 1203) (tk u0_8) (.ref 1356) (tk u0_10) v0_5 (tk u0_12) v0_6 (tk u0_14) v0_7 (tk u0_16) v0_8)) (h1 : Hs s 1106 (sh1106 w.params uu (.ref 1306))) (h2 : Hs s 1186 (sh1186 w.params uu v2_16)) (h3 : Hs s 1202 (sh1202 w.params uu (iv 0 (tk u3_3)) v3_5 v3_7 v3_8 v3_9 v3_11 v3_12 v3_13 v3_14)) (h4 : Hs s 1205 (dcO #[] 0)) (h5 : Hs s 1260 (sh1260 w.params uu v5_1 (iv 0 (tk u5_5)))) (h6 : Hs s 1273 (sh1273 w.params uu (iv 0 (tk u6_9)))) (h7 : Hs s 1287 (sh1287 w.params uu (.ref 1378))) (h8 : Hs s 1294 (ls #[(.ref 1291), (.ref 1350)] 1)) (h9 : Hs s 1349 (sh1349 w.params ua (iv 10 (tk u9_7)) (iv 0 (tk u9_9)))) (h10 : Hs s 1350 ⟨(.ref 700), (some 1349), .plain, #[]⟩) (h11 : Hs s 1356 (ls #[(.ref 1366), (.ref 1375)] 2)) (h12 : Hs s 1366 (tpO #[(sv "home" (tk u12_1)), (.bytes #[0, 0, 0, 0, 0, 0, 0, 0] (tk u12_3))] 0)) (h13 : Hs s 1375 (tpO #[(sv "away" (tk u13_1)), (.bytes #[1, 1, 1, 1, 1, 1, 1, 1] (tk u13_3))] 0)) (h14 : Hs s 1378 (ls #[(.ref 1366), (.ref 1375)] 1)) :
  wp (model PP w) Γf (execs (lawSl 12 7) lawEnv) (fun g _ s' => g = .next ∧ After s s' [1095, 1106, 1186, 1202, 1205, 1260, 1273, 1287, 1294, 1349, 1350, 1356, 1366, 1375, 1378] (N + 1090) 350 (tk (t + 828)) ∧ Hs s' 1095 (loc12 w.params (tk u0_0) v0_0 (tk u0_2) (.ref 1107) (tk u0_4) (iv 10 (tk u0_5)) (tk u0_6) (.ref 1203) (tk u0_8) (.ref 1356) (tk u0_10) v0_5 (tk u0_12) v0_6 (tk u0_14) v0_7 (tk u0_16) v0_8 (tk (t + 1)) (.bool false) (tk (t + 798)) (.ref ((N + 1090) + 2)) (tk (t + 814)) (.ref ((N + 1090) + 335))) ∧ Hs s' 1106 (sh1106 w.params uu (.ref 1306)) ∧ Hs s' 1186 (sh1186 w.params uu v2_16) ∧ Hs s' 1202 (sh1202 w.params uu (iv 0 (tk u3_3)) v3_5 v3_7 v3_8 v3_9 v3_11 v3_12 v3_13 v3_14) ∧ Hs s' 1205 (dcO #[] 0) ∧ Hs s' 1260 (sh1260 w.params uu v5_1 (iv 0 (tk u5_5))) ∧ Hs s' 1273 (sh1273 w.params uu (iv 0 (tk u6_9))) ∧ Hs s' 1287 (sh1287 w.params uu (.ref ((N + 1090) + 9))) ∧ Hs s' 1294 (ls #[(.ref 1291), (.ref 1350)] 1) ∧ Hs s' 1349 (sh1349 w.params ua (iv 10 (tk u9_7)) (iv 0 (tk u9_9))) ∧ Hs s' 1350 ⟨(.ref 700), (some 1349), .plain, #[]⟩ ∧ Hs s' 1356 (ls #[(.ref 1366), (.ref 1375)] 2) ∧ Hs s' 1366 (tpO #[(sv "home" (tk u12_1)), (.bytes #[0, 0, 0, 0, 0, 0, 0, 0] (tk u12_3))] 0) ∧ Hs s' 1375 (tpO #[(sv "away" (tk u13_1)), (.bytes #[1, 1, 1, 1, 1, 1, 1, 1] (tk u13_3))] 0) ∧ Hs s' 1378 (ls #[(.ref 1366), (.ref 1375)] 1) ∧ Hs s' ((N + 1090) + 335) (ls #[(.ref 1366)] 1) ∧ Hs s' ((N + 1090) + 9) (ls #[(.ref 1366)] 1)) (fun _ _ _ => False) p s := by
  have hkb := kb_of w.params uu (l := [1095, 1106, 1186, 1202, 1205, 1260, 1273, 1287, 1294, 1349, 1350, 1356, 1366, 1375, 1378]) (by decide)
  exact Sem.wp_mono _ _ _ (fun g _ s' h => ⟨h.1, h.2.1, h.2.2 _ m0, h.2.2 _ m1, h.2.2 _ m2, h.2.2 _ m3, h.2.2 _ m4, h.2.2 _ m5, h.2.2 _ m6, h.2.2 _ m7, h.2.2 _ m8, h.2.2 _ m9, h.2.2 _ m10, h.2.2 _ m11, h.2.2 _ m12, h.2.2 _ m13, h.2.2 _ m14, h.2.2 _ m15, h.2.2 _ m16⟩) (fun _ _ _ h => h) _ _ (tri (cs_R12tb w N t ua u0_0 u0_2 u0_4 u0_5 u0_6 u0_8 u0_10 u0_12 u0_14 u0_16 u3_3 u5_5 u6_9 u9_7 u9_9 u12_1 u12_3 u13_1 u13_3 v0_0 v0_5 v0_6 v0_7 v0_8 v2_16 v3_5 v3_7 v3_8 v3_9 v3_11 v3_12 v3_13 v3_14 v5_1 uu p) (by kernel_rfl) hkb (by decide) hN ht hg hk (mc h0 <| mc h1 <| mc h2 <| mc h3 <| mc h4 <| mc h5 <| mc h6 <| mc h7 <| mc h8 <| mc h9 <| mc h10 <| mc h11 <| mc h12 <| mc h13 <| mc h14 <| mn) trivial (fa_nil))

end
end Mine
end
section
set_option maxRecDepth 100000
set_option linter.unusedVariables false
open PySem PySem.W PySem.Calls PyProof.Rows
open PySem.Sem (wp)
namespace Mine
noncomputable section
def n_pp (w : World) (t u0 u2 u4 u6 u8 M : Nat) : List Obj := [(frm #[(en w.params "key" (tk (t + 0)) (.bytes #[107] (tk u0))), (en w.params "number" (tk (t + 1)) (iv 0 (tk u2))), (en w.params "head" (tk (t + 2)) (.bytes #[64, 112, 101, 101, 114] (tk u4))), (en w.params "cut" (tk (t + 3)) (.bytes #[0] (tk u6))), (en w.params "payload" (tk (t + 4)) (.bytes #[27, 1, 1, 1, 1, 1, 1, 1, 1, 0, 0, 0, 0, 0, 0, 0, 0, 0, 0, 0, 0, 0, 0, 0, 0, 0, 0, 0] (tk u8))), (en w.params "whole_head" (tk (t + 6)) (.bytes #[64, 112, 101, 101, 114, 0] (tk (t + 5)))), (en w.params "sealed" (tk (t + 908)) (.bytes #[208, 15, 21, 98, 154, 165, 25, 229, 144, 29, 126, 212, 8, 5, 98, 32, 155, 0, 105, 14, 57, 120, 182, 245, 228, 67, 13, 93, 26, 39, 212, 217, 13, 124, 58, 79, 122, 24, 95, 202, 167, 171, 44, 223] (tk (t + 907)))), (en w.params "data" (tk (t + 910)) (.bytes #[64, 112, 101, 101, 114, 0, 208, 15, 21, 98, 154, 165, 25, 229, 144, 29, 126, 212, 8, 5, 98, 32, 155, 0, 105, 14, 57, 120, 182, 245, 228, 67, 13, 93, 26, 39, 212, 217, 13, 124, 58, 79, 122, 24, 95, 202, 167, 171, 44, 223] (tk (t + 909)))), (en w.params "mask" (tk (t + 1203)) (.bytes #[136, 130, 148, 67, 6] (tk (t + 1202))))] 9), (frm #[(en w.params "key" (tk (t + 7)) (.bytes #[107] (tk u0))), (en w.params "number" (tk (t + 8)) (iv 0 (tk u2))), (en w.params "head" (tk (t + 9)) (.bytes #[64, 112, 101, 101, 114, 0] (tk (t + 5)))), (en w.params "payload" (tk (t + 10)) (.bytes #[27, 1, 1, 1, 1, 1, 1, 1, 1, 0, 0, 0, 0, 0, 0, 0, 0, 0, 0, 0, 0, 0, 0, 0, 0, 0, 0, 0] (tk u8))), (en w.params "body" (tk (t + 404)) (.bytes #[208, 15, 21, 98, 154, 165, 25, 229, 144, 29, 126, 212, 8, 5, 98, 32, 155, 0, 105, 14, 57, 120, 182, 245, 228, 67, 13, 93] (tk (t + 403))))] 5), (frm #[(en w.params "key" (tk (t + 11)) (.bytes #[107] (tk u0))), (en w.params "number" (tk (t + 12)) (iv 0 (tk u2))), (en w.params "data" (tk (t + 13)) (.bytes #[27, 1, 1, 1, 1, 1, 1, 1, 1, 0, 0, 0, 0, 0, 0, 0, 0, 0, 0, 0, 0, 0, 0, 0, 0, 0, 0, 0] (tk u8))), (en w.params "found" (tk (t + 65)) (.ref (M + 11))), (en w.params "state" (tk (t + 66)) (iv 148482209850411221111611556965304343938 (tk (t + 396)))), (en w.params "octet" (tk (t + 68)) (iv 0 (tk (t + 391))))] 6), (frm #[(en w.params "start" (tk (t + 16)) (iv 1 (tk (t + 15)))), (en w.params "data" (tk (t + 17)) (.bytes #[107] (tk u0))), (en w.params "found" (tk (t + 19)) (iv 6364136223846793113 (tk (t + 26)))), (en w.params "octet" (tk (t + 21)) (iv 107 (tk (t + 20))))] 4), ⟨(.type "bytes_iterator"), none, (.fields #[.none, (iv 1 0)]), #[]⟩, ⟨(.type "tuple"), none, (.seq #[] 0), #[]⟩, ⟨(.type "StopIteration"), none, (.fields #[(.ref (M + 5)), .none, .none, .none, (.bool false), .none]), #[]⟩, (frm #[(en w.params "start" (tk (t + 29)) (iv 6364136223846793113 (tk (t + 26)))), (en w.params "data" (tk (t + 30)) (.bytes #[98, 111, 100, 121] (tk (t + 28)))), (en w.params "found" (tk (t + 32)) (iv 3472573643203937605342775896780867320 (tk (t + 63)))), (en w.params "octet" (tk (t + 34)) (iv 121 (tk (t + 57))))] 4), ⟨(.type "bytes_iterator"), none, (.fields #[.none, (iv 4 0)]), #[]⟩, ⟨(.type "tuple"), none, (.seq #[] 0), #[]⟩, ⟨(.type "StopIteration"), none, (.fields #[(.ref (M + 9)), .none, .none, .none, (.bool false), .none]), #[]⟩, (ls #[(iv 208 (tk (t + 78))), (iv 15 (tk (t + 90))), (iv 21 (tk (t + 102))), (iv 98 (tk (t + 114))), (iv 154 (tk (t + 126))), (iv 165 (tk (t + 138))), (iv 25 (tk (t + 150))), (iv 229 (tk (t + 162))), (iv 144 (tk (t + 174))), (iv 29 (tk (t + 186))), (iv 126 (tk (t + 198))), (iv 212 (tk (t + 210))), (iv 8 (tk (t + 222))), (iv 5 (tk (t + 234))), (iv 98 (tk (t + 246))), (iv 32 (tk (t + 258))), (iv 155 (tk (t + 270))), (iv 0 (tk (t + 282))), (iv 105 (tk (t + 294))), (iv 14 (tk (t + 306))), (iv 57 (tk (t + 318))), (iv 120 (tk (t + 330))), (iv 182 (tk (t + 342))), (iv 245 (tk (t + 354))), (iv 228 (tk (t + 366))), (iv 67 (tk (t + 378))), (iv 13 (tk (t + 390))), (iv 93 (tk (t + 402)))] 28), ⟨(.type "tuple"), none, (.seq #[(iv 3472573643203937605342775896780867320 (tk (t + 63))), (.ref (M + 11))] 0), #[]⟩, ⟨(.type "tuple_iterator"), none, (.fields #[.none, (iv 2 0)]), #[]⟩, ⟨(.type "tuple"), none, (.seq #[] 0), #[]⟩, ⟨(.type "StopIteration"), none, (.fields #[(.ref (M + 14)), .none, .none, .none, (.bool false), .none]), #[]⟩, ⟨(.type "bytes_iterator"), none, (.fields #[.none, (iv 28 0)]), #[]⟩, ⟨(.type "tuple"), none, (.seq #[] 0), #[]⟩, ⟨(.type "StopIteration"), none, (.fields #[(.ref (M + 17)), .none, .none, .none, (.bool false), .none]), #[]⟩, ⟨(.type "list_iterator"), none, (.fields #[.none, (iv 28 0)]), #[]⟩, ⟨(.type "bytearray"), none, (.bytearray #[208, 15, 21, 98, 154, 165, 25, 229, 144, 29, 126, 212, 8, 5, 98, 32, 155, 0, 105, 14, 57, 120, 182, 245, 228, 67, 13, 93] 0), #[]⟩, ⟨(.type "tuple"), none, (.seq #[] 0), #[]⟩, ⟨(.type "StopIteration"), none, (.fields #[(.ref (M + 21)), .none, .none, .none, (.bool false), .none]), #[]⟩, (frm #[(en w.params "key" (tk (t + 405)) (.bytes #[107] (tk u0))), (en w.params "number" (tk (t + 406)) (iv 0 (tk u2))), (en w.params "head" (tk (t + 407)) (.bytes #[64, 112, 101, 101, 114, 0] (tk (t + 5)))), (en w.params "body" (tk (t + 408)) (.bytes #[208, 15, 21, 98, 154, 165, 25, 229, 144, 29, 126, 212, 8, 5, 98, 32, 155, 0, 105, 14, 57, 120, 182, 245, 228, 67, 13, 93] (tk (t + 403)))), (en w.params "state" (tk (t + 779)) (iv 34766744535411398015159182910070402271 (tk (t + 777))))] 5), (frm #[(en w.params "start" (tk (t + 411)) (iv 1 (tk (t + 410)))), (en w.params "data" (tk (t + 412)) (.bytes #[107] (tk u0))), (en w.params "found" (tk (t + 414)) (iv 6364136223846793113 (tk (t + 421)))), (en w.params "octet" (tk (t + 416)) (iv 107 (tk (t + 415))))] 4), ⟨(.type "bytes_iterator"), none, (.fields #[.none, (iv 1 0)]), #[]⟩, ⟨(.type "tuple"), none, (.seq #[] 0), #[]⟩, ⟨(.type "StopIteration"), none, (.fields #[(.ref (M + 26)), .none, .none, .none, (.bool false), .none]), #[]⟩, (frm #[(en w.params "n" (tk (t + 426)) (iv 0 (tk (t + 466)))), (en w.params "size" (tk (t + 427)) (iv 4 (tk (t + 425)))), (en w.params "found" (tk (t + 433)) (.ref (M + 29))), (en w.params "place" (tk (t + 441)) (iv 0 (tk (t + 461))))] 4), ⟨(.type "bytearray"), none, (.bytearray #[0, 0, 0, 6] 0), #[]⟩, ⟨(.type "range"), none, (.fields #[(iv 3 (tk (t + 435))), (.int (Int.negSucc 0) (tk (t + 437))), (.int (Int.negSucc 0) (tk (t + 439)))]), #[]⟩, ⟨(.type "range_iterator"), none, (.fields #[(.int (Int.negSucc 0) 0), (iv 0 0), (.int (Int.negSucc 0) 0)]), #[]⟩, ⟨(.type "tuple"), none, (.seq #[] 0), #[]⟩, ⟨(.type "StopIteration"), none, (.fields #[(.ref (M + 32)), .none, .none, .none, (.bool false), .none]), #[]⟩, (frm #[(en w.params "start" (tk (t + 471)) (iv 6364136223846793113 (tk (t + 421)))), (en w.params "data" (tk (t + 472)) (.bytes #[0, 0, 0, 6, 64, 112, 101, 101, 114, 0, 208, 15, 21, 98, 154, 165, 25, 229, 144, 29, 126, 212, 8, 5, 98, 32, 155, 0, 105, 14, 57, 120, 182, 245, 228, 67, 13, 93] (tk (t + 470)))), (en w.params "found" (tk (t + 474)) (iv 34766744535411398015159182910070402271 (tk (t + 777)))), (en w.params "octet" (tk (t + 476)) (iv 93 (tk (t + 771))))] 4), ⟨(.type "bytes_iterator"), none, (.fields #[.none, (iv 38 0)]), #[]⟩, ⟨(.type "tuple"), none, (.seq #[] 0), #[]⟩, ⟨(.type "StopIteration"), none, (.fields #[(.ref (M + 36)), .none, .none, .none, (.bool false), .none]), #[]⟩, (frm #[(en w.params "n" (tk (t + 780)) (iv 0 (tk (t + 904)))), (en w.params "size" (tk (t + 781)) (iv 16 669)), (en w.params "found" (tk (t + 787)) (.ref (M + 39))), (en w.params "place" (tk (t + 795)) (iv 0 (tk (t + 899))))] 4), ⟨(.type "bytearray"), none, (.bytearray #[26, 39, 212, 217, 13, 124, 58, 79, 122, 24, 95, 202, 167, 171, 44, 223] 0), #[]⟩, ⟨(.type "range"), none, (.fields #[(iv 15 (tk (t + 789))), (.int (Int.negSucc 0) (tk (t + 791))), (.int (Int.negSucc 0) (tk (t + 793)))]), #[]⟩, ⟨(.type "range_iterator"), none, (.fields #[(.int (Int.negSucc 0) 0), (iv 0 0), (.int (Int.negSucc 0) 0)]), #[]⟩, ⟨(.type "tuple"), none, (.seq #[] 0), #[]⟩, ⟨(.type "StopIteration"), none, (.fields #[(.ref (M + 42)), .none, .none, .none, (.bool false), .none]), #[]⟩, (frm #[(en w.params "data" (tk (t + 915)) (.bytes #[64, 112, 101, 101, 114, 0, 208, 15, 21, 98, 154, 165, 25, 229, 144, 29, 126, 212, 8, 5, 98, 32, 155, 0, 105, 14, 57, 120, 182, 245, 228, 67, 13, 93, 26, 39, 212, 217, 13, 124, 58, 79, 122, 24, 95, 202, 167, 171, 44, 223] (tk (t + 909)))), (en w.params "number_at" (tk (t + 916)) (iv 5 (tk (t + 912)))), (en w.params "end" (tk (t + 917)) (iv 50 (tk (t + 914))))] 3), ⟨(.type "slice"), none, (.fields #[(iv 9 (tk (t + 922))), (iv 25 (tk (t + 925))), .none]), #[]⟩, (frm #[(en w.params "key" (tk (t + 927)) (.bytes #[107] (tk u0))), (en w.params "sample" (tk (t + 928)) (.bytes #[98, 154, 165, 25, 229, 144, 29, 126, 212, 8, 5, 98, 32, 155, 0, 105] (tk (t + 926))))] 2), (frm #[(en w.params "start" (tk (t + 930)) (iv 7 (tk (t + 929)))), (en w.params "data" (tk (t + 931)) (.bytes #[107] (tk u0))), (en w.params "found" (tk (t + 933)) (iv 44548953566927551143 (tk (t + 940)))), (en w.params "octet" (tk (t + 935)) (iv 107 (tk (t + 934))))] 4), ⟨(.type "bytes_iterator"), none, (.fields #[.none, (iv 1 0)]), #[]⟩, ⟨(.type "tuple"), none, (.seq #[] 0), #[]⟩, ⟨(.type "StopIteration"), none, (.fields #[(.ref (M + 49)), .none, .none, .none, (.bool false), .none]), #[]⟩, (frm #[(en w.params "start" (tk (t + 942)) (iv 44548953566927551143 (tk (t + 940)))), (en w.params "data" (tk (t + 943)) (.bytes #[98, 154, 165, 25, 229, 144, 29, 126, 212, 8, 5, 98, 32, 155, 0, 105] (tk (t + 926)))), (en w.params "found" (tk (t + 945)) (iv 42949140944921620861110619436649562886 (tk (t + 1072)))), (en w.params "octet" (tk (t + 947)) (iv 105 (tk (t + 1066))))] 4), ⟨(.type "bytes_iterator"), none, (.fields #[.none, (iv 16 0)]), #[]⟩, ⟨(.type "tuple"), none, (.seq #[] 0), #[]⟩, ⟨(.type "StopIteration"), none, (.fields #[(.ref (M + 53)), .none, .none, .none, (.bool false), .none]), #[]⟩, (frm #[(en w.params "n" (tk (t + 1074)) (iv 0 (tk (t + 1198)))), (en w.params "size" (tk (t + 1075)) (iv 16 669)), (en w.params "found" (tk (t + 1081)) (.ref (M + 56))), (en w.params "place" (tk (t + 1089)) (iv 0 (tk (t + 1193))))] 4), ⟨(.type "bytearray"), none, (.bytearray #[32, 79, 180, 35, 68, 182, 150, 147, 165, 185, 41, 136, 130, 148, 67, 6] 0), #[]⟩, ⟨(.type "range"), none, (.fields #[(iv 15 (tk (t + 1083))), (.int (Int.negSucc 0) (tk (t + 1085))), (.int (Int.negSucc 0) (tk (t + 1087)))]), #[]⟩, ⟨(.type "range_iterator"), none, (.fields #[(.int (Int.negSucc 0) 0), (iv 0 0), (.int (Int.negSucc 0) 0)]), #[]⟩, ⟨(.type "tuple"), none, (.seq #[] 0), #[]⟩, ⟨(.type "StopIteration"), none, (.fields #[(.ref (M + 59)), .none, .none, .none, (.bool false), .none]), #[]⟩, ⟨(.type "slice"), none, (.fields #[(iv 11 (tk (t + 1201))), .none, .none]), #[]⟩, (frm #[(en w.params "first" (tk (t + 1206)) (iv 64 (tk (t + 1205)))), (en w.params "mask" (tk (t + 1207)) (.bytes #[136, 130, 148, 67, 6] (tk (t + 1202))))] 2), (ls #[(iv 72 (tk (t + 1213)))] 0), ⟨(.type "list_iterator"), none, (.fields #[.none, (iv 1 0)]), #[]⟩, ⟨(.type "bytearray"), none, (.bytearray #[72] 0), #[]⟩, ⟨(.type "tuple"), none, (.seq #[] 0), #[]⟩, ⟨(.type "StopIteration"), none, (.fields #[(.ref (M + 66)), .none, .none, .none, (.bool false), .none]), #[]⟩, ⟨(.type "slice"), none, (.fields #[(iv 1 (tk (t + 1215))), .none, .none]), #[]⟩, (frm #[(en w.params "octets" (tk (t + 1218)) (.bytes #[0] (tk u6)))] 1), ⟨(.type "cell"), none, (.cell (some (.bytes #[136, 130, 148, 67, 6] (tk (t + 1202))))), #[]⟩, ⟨(.type "bytes_iterator"), none, (.fields #[.none, (iv 1 0)]), #[]⟩, ⟨(.type "enumerate"), none, (.fields #[.none, (.bool false), (.ref (M + 71)), (iv 1 0), .none, (iv 0 (tk (t + 1219)))]), #[]⟩, (ls #[(iv 130 (tk (t + 1226)))] 1), ⟨(.type "dict"), none, (.dict #[] 4), #[]⟩, ⟨(.type "tuple"), none, (.seq #[(iv 0 (tk (t + 1220))), (iv 0 (tk (t + 1219)))] 0), #[]⟩, ⟨(.type "tuple_iterator"), none, (.fields #[.none, (iv 2 0)]), #[]⟩, ⟨(.type "tuple"), none, (.seq #[] 0), #[]⟩, ⟨(.type "StopIteration"), none, (.fields #[(.ref (M + 77)), .none, .none, .none, (.bool false), .none]), #[]⟩, ⟨(.type "tuple"), none, (.seq #[] 0), #[]⟩, ⟨(.type "StopIteration"), none, (.fields #[(.ref (M + 79)), .none, .none, .none, (.bool false), .none]), #[]⟩, ⟨(.type "list_iterator"), none, (.fields #[.none, (iv 1 0)]), #[]⟩, ⟨(.type "bytearray"), none, (.bytearray #[130] 0), #[]⟩, ⟨(.type "tuple"), none, (.seq #[] 0), #[]⟩, ⟨(.type "StopIteration"), none, (.fields #[(.ref (M + 83)), .none, .none, .none, (.bool false), .none]), #[]⟩]
def r_pp (w : World) (N t u0 u2 u4 u6 u8 : Nat) (uu : Nat) (b1 b2 b3 b4 b5 : List Stmt) (tg : Expr) (itv : Value) (e1 e2 e3 e4 : PySem.Env) (p1 p2 p3 p4 p5 p6 p : Pos) : St :=
  runE (VL w (kt2 w.params uu) [] (N + 1090) t [] [] [(.func b1 e1, p1), (.func b2 e2, p2), (.forLoop tg itv b3 b4 e3, p3), (.func b5 e4, p4), (lawCode, p5), (cc, p6)]) 10498 (expOf 0 (n_pp w t u0 u2 u4 u6 u8 (N + 1090))) (.ret (.bytes #[72, 112, 101, 101, 114, 130, 208, 15, 21, 98, 154, 165, 25, 229, 144, 29, 126, 212, 8, 5, 98, 32, 155, 0, 105, 14, 57, 120, 182, 245, 228, 67, 13, 93, 26, 39, 212, 217, 13, 124, 58, 79, 122, 24, 95, 202, 167, 171, 44, 223] (tk (t + 1229)))) 85 1230 (.call (.ref 347) ⟨[(.bytes #[107] (tk u0)), (iv 0 (tk u2)), (.bytes #[64, 112, 101, 101, 114] (tk u4)), (.bytes #[0] (tk u6)), (.bytes #[27, 1, 1, 1, 1, 1, 1, 1, 1, 0, 0, 0, 0, 0, 0, 0, 0, 0, 0, 0, 0, 0, 0, 0, 0, 0, 0, 0] (tk u8))], []⟩) p [] (DD (.call (.ref 347) ⟨[(.bytes #[107] (tk u0)), (iv 0 (tk u2)), (.bytes #[64, 112, 101, 101, 114] (tk u4)), (.bytes #[0] (tk u6)), (.bytes #[27, 1, 1, 1, 1, 1, 1, 1, 1, 0, 0, 0, 0, 0, 0, 0, 0, 0, 0, 0, 0, 0, 0, 0, 0, 0, 0, 0] (tk u8))], []⟩)) (mkT [] 0 .nil) 0 0 0 (dec [0x441441111133311331331331331111122221221122122122122122122111, 0x666165511111511555166666161611222555111515515511111414111441, 0x991aaaaa1a99111119119991aaaaa1a1a112229991119199199111115866, 0xaaaaa1a99111119119991aaaaa1a99111119119991aaaaa1a99111119119, 0x410000010112c11222444144111c00fc0ec0001000fc0ec0001000fc0ec000100fc011222000ec90cc, 0x12c00001111440000dc444111111444100000112c00001111440000dc44411111144, 0x1440000dc444111111444100000112c00001111440000dc4441111114441000012c1, 0x44111111444100000112c00001111440000dc444111111444100000112c0000dc111, 0x444100000112c00001111440000dc444111111444100000112c00001111440000dc4, 0x112c00001111440000dc444111111444100000112c00001111440000dc444111111, 0x111440000dc444111111444100000112c00001111440000dc444111111444100012c, 0xdc444111111444100000112c00001111440000dc444111111444100000112c0000dc1, 0x11444100000112c00001111440000dc444111111444100000112c0000111144000dc, 0x112c00001111440000dc444111111444100000112c00001111440000dc4441111, 0x1111440000dc444111111444100000112c00001111440000dc4441111114441012c, 0xdc444111111444100000112c00001111440000dc444111111444100000112c000dc, 0x1111444100000112c00001111440000dc444111111444100000112c00001111440dc, 0x112c00001111440000dc444111111444100000112c00001111440000dc44411, 0x1111440000dc444111111444100000112c00001111440000dc4441111114441, 0x40000dc444111111444100000112c00001111440000dc444111111444100000112c0dc, 0xdc1141114c00000112c00001111440000dc444111111444100000112c0000dc11114, 0x115c0016c015c0dc000115c0016c015c0dc000115c0016c015c0dc000115c0016c015c0dc000115c00dc15c011222000dc, 0x16c015c0dc000115c0016c015c0dc000115c0016c015c0dc000115c0016c015c0dc000115c0016c015c0dc000115c0016c015c0dc15c, 0x115c0016c015c0dc000115c0016c015c0dc000115c0016c015c0dc000115c0016c015c0dc000115c0016c015c0dc000115c016c, 0x15c0dc000115c0016c015c0dc000115c0016c015c0dc000115c0016c015c0dc000115c0016c015c0dc000115c0016c015c0dc015c, 0x115c0016c015c0dc000115c0016c015c0dc000115c0016c015c0dc000115c0016c015c0dc000115c0016c015c0dc000115c0016c, 0x111001001001019c11111333313331116c18c015c0dc000115c0016c015c0dc000115c0016c015c0dc0015c, 0x1111ac1dc0000011bc0011111011001ac1000001011bc112220001110100101ac1111119c1, 0x122200001020c1111101101ec10601fc11011112221100112220100101ec111111119c, 0x101fc001001ec100000000121c00111ec00000101fc001001ec10000000010121c00020c1, 0x101fc001001ec100000000121c00111ec00000101fc001001ec100000000121c00111ec01fc, 0x125c1122200011101001024c1111110119c10000000001fc111ec1123c0000121c00111ec01fc, 0x111110110024c100000125c00111110110024c100000125c00111110110024c1000025c1, 0x110110024c100000125c00111110110024c100000125c00111110110024c100000125c024c, 0x110024c100000125c00111110110024c100000125c00111110110024c100000125c024c111, 0x24c100000125c00111110110024c100000125c00111110110024c100000125c001111124c, 0x125c00111110110024c100000125c00111110110024c100000125c001111101124c, 0x125c00111110110024c100000125c00111110110024c100000125c00111110110024c1, 0x25c00111110110024c100000125c00111110110024c100000125c00111110110024c10025c, 0x111110110024c100000125c00111110110024c100000125c00111110110024c1000025c1, 0x110110024c100000125c00111110110024c100000125c00111110110024c100000125c024c, 0x110024c100000125c00111110110024c100000125c00111110110024c100000125c024c111, 0x24c100000125c00111110110024c100000125c00111110110024c100000125c001111124c, 0x125c00111110110024c100000125c00111110110024c100000125c001111101124c, 0x125c00111110110024c100000125c00111110110024c100000125c00111110110024c1, 0x111122211001122201001028c11111101019c124c27c00000125c00111110110024c10025c, 0x1029c0010028c1000000001012bc0000112220000102ac11111011028c106029c1128c, 0x1029c0010028c10000000012bc001128c000001029c0010028c10000000012bc001128c29c, 0x1029c0010028c10000000012bc001128c000001029c0010028c10000000012bc001128c29c, 0x1029c0010028c10000000012bc001128c000001029c0010028c10000000012bc001128c29c, 0x1029c0010028c10000000012bc001128c000001029c0010028c10000000012bc001128c29c, 0x1029c0010028c10000000012bc001128c000001029c0010028c10000000012bc001128c29c, 0x1029c0010028c10000000012bc001128c000001029c0010028c10000000012bc001128c29c, 0x1029c0010028c10000000012bc001128c000001029c0010028c10000000012bc001128c29c, 0x1100000000029c1128c112dc000012bc001128c000001029c0010028c10000000012bc001128c29c, 0x2fc111101001122201110100100102ec1111111211112112121221122221, 0x111110110031c10000010132c1122200011101001031c1111101111001030c11111, 0x136c00111110110035c10000010136c1122200011101001035c1111130c31c34c00000132c31c, 0x111110110035c100000136c00111110110035c100000136c00111110110035c100036c, 0x11110110035c100000136c00111110110035c100000136c00111110110035c100000136c, 0x10110035c100000136c00111110110035c100000136c00111110110035c100000136c035c1, 0x10035c100000136c00111110110035c100000136c00111110110035c100000136c035c1111, 0x35c100000136c00111110110035c100000136c00111110110035c100000136c001111135c1, 0x39c10603ac110111122211001122201001039c11111135c38c00000136c0011111011035c, 0x13cc001139c00000103ac0010039c1000000001013cc0000112220000103bc1111139c11, 0x13cc001139c00000103ac0010039c10000000013cc001139c00000103ac0010039c1000003cc, 0x13cc001139c00000103ac0010039c10000000013cc001139c00000103ac0010039c1000003cc, 0x13cc001139c00000103ac0010039c10000000013cc001139c00000103ac0010039c1000003cc, 0x13cc001139c00000103ac0010039c10000000013cc001139c00000103ac0010039c1000003cc, 0x13cc001139c00000103ac0010039c10000000013cc001139c00000103ac0010039c1000003cc, 0x13cc001139c00000103ac0010039c10000000013cc001139c00000103ac0010039c1000003cc, 0x13cc001139c00000103ac0010039c10000000013cc001139c00000103ac0010039c1000003cc, 0x2100003fc111110000000003ac1139c113ec000013cc001139c00000103ac0010039c1000003cc, 0x142c0043c042c41c000142c041c42c01122200000041c11111122201001001040c111112121112, 0x33100112220000104ac49c112221147c11111048c047c111112211000046c12143c45c042c41c0042c, 0x1004ec4dc000104ec011222004dc4acfff00000000000004ac00000149c0010001122204ac0cc, 0x12220000004bc11000004cc52c00000149c0014ac0004bc11114cc48c000104cc150c04ec4dc0001004ec4dc, 0x121154c56c053c4bc000153c0054c053c4bc000153c04bc53c4bc1]) .nil
theorem cs_pp (w : World) (N t u0 u2 u4 u6 u8 : Nat) (uu : Nat) (b1 b2 b3 b4 b5 : List Stmt) (tg : Expr) (itv : Value) (e1 e2 e3 e4 : PySem.Env) (p1 p2 p3 p4 p5 p6 p : Pos) : okR (r_pp w N t u0 u2 u4 u6 u8 uu b1 b2 b3 b4 b5 tg itv e1 e2 e3 e4 p1 p2 p3 p4 p5 p6 p) := by kernel_rfl
theorem pp {w : World} {t u0 u2 u4 u6 u8 uu : Nat} {b1 b2 b3 b4 b5 : List Stmt} {tg : Expr} {itv : Value} {e1 e2 e3 e4 : PySem.Env} : CallOK [.func b1 e1, .func b2 e2, .forLoop tg itv b3 b4 e3, .func b5 e4, lawCode] w (kt2 w.params uu) (.call (.ref 347) ⟨[(.bytes #[107] (tk u0)), (iv 0 (tk u2)), (.bytes #[64, 112, 101, 101, 114] (tk u4)), (.bytes #[0] (tk u6)), (.bytes #[27, 1, 1, 1, 1, 1, 1, 1, 1, 0, 0, 0, 0, 0, 0, 0, 0, 0, 0, 0, 0, 0, 0, 0, 0, 0, 0, 0] (tk u8))], []⟩) (tk t) (tk (t + 1230)) [] [] (.bytes #[72, 112, 101, 101, 114, 130, 208, 15, 21, 98, 154, 165, 25, 229, 144, 29, 126, 212, 8, 5, 98, 32, 155, 0, 105, 14, 57, 120, 182, 245, 228, 67, 13, 93, 26, 39, 212, 217, 13, 124, 58, 79, 122, 24, 95, 202, 167, 171, 44, 223] (tk (t + 1229))) [] (n_pp w t u0 u2 u4 u6 u8) :=
  call_pure (fun N bel p hb => by obtain ⟨p1, p2, p3, p4, p5, p6, rfl⟩ := bel6 hb; exact cs_pp w N t u0 u2 u4 u6 u8 uu b1 b2 b3 b4 b5 tg itv e1 e2 e3 e4 p1 p2 p3 p4 p5 p6 p) (fun _ => rfl) (fun _ => rfl) ⟨1324, o_1324 w.params uu, by kernel_rfl, by decide⟩

end
end Mine
end
section
set_option maxRecDepth 100000
set_option linter.unusedVariables false
open PySem PySem.W PySem.Calls PyProof.Rows
open PySem.Sem (wp)
namespace Mine
noncomputable section
def r_p12ha0 (w : World) (N t t1 ua u0_0 u0_2 u0_4 u0_5 u0_6 u0_8 u0_10 u0_12 u0_14 u0_16 u3_3 u5_5 u6_9 u9_7 u9_9 u12_1 u12_3 ub0 : Nat) (v0_0 v0_5 v0_6 v0_7 v0_8 v3_5 v3_7 v3_8 v3_9 v3_11 v3_12 v3_13 v3_14 v5_1 : Value) (nw : Nat → Obj) (uu : Nat) (p : Pos) : St :=
  runE (VL w (kt2 w.params uu) [1095, 1106, 1186, 1202, 1205, 1260, 1273, 1287, 1294, 1349, 1350, 1356, 1367, 1370] (N + 1090) t [(1259, t1)] [⟨some [(.func (fdBody (stm 97)) ⟨fdScope (stm 97), ((N + 1090) + 449), 3, [], (Str.ofString "put_packet.<locals>."), (some 375), (.ref 374), (some ((N + 1090) + 449)), 0⟩), (.func (fdBody (stm 110)) ⟨fdScope (stm 110), ((N + 1090) + 408), 3, [], (Str.ofString "sealed.<locals>."), (some 435), (.ref 434), (some ((N + 1090) + 408)), 0⟩), (.forLoop (forT (nthS 5 (fdBody (stm 113)))) (.ref ((N + 1090) + 40)) (forB (nthS 5 (fdBody (stm 113)))) (forO (nthS 5 (fdBody (stm 113)))) ⟨fdScope (stm 113), ((N + 1090) + 7), 3, [((Str.ofString "active"), ((N + 1090) + 8))], (Str.ofString "other_answers.<locals>."), (some 452), (.ref 451), (some ((N + 1090) + 7)), 0⟩), (.func (fdBody (stm 113)) ⟨fdScope (stm 113), ((N + 1090) + 7), 3, [((Str.ofString "active"), ((N + 1090) + 8))], (Str.ofString "other_answers.<locals>."), (some 452), (.ref 451), (some ((N + 1090) + 7)), 0⟩), lawCode], (.call (.ref 347) ⟨[(.bytes #[107] (tk (uu + 437))), (iv 0 (tk (t + 1056))), (.bytes #[64, 112, 101, 101, 114] (tk (t + 1258))), (.bytes #[0] (tk (t + 1209))), (.bytes #[27, 1, 1, 1, 1, 1, 1, 1, 1, 0, 0, 0, 0, 0, 0, 0, 0, 0, 0, 0, 0, 0, 0, 0, 0, 0, 0, 0] (tk (t + 1139)))], []⟩), 1259, 469, 1, [], (.bytes #[72, 112, 101, 101, 114, 130, 208, 15, 21, 98, 154, 165, 25, 229, 144, 29, 126, 212, 8, 5, 98, 32, 155, 0, 105, 14, 57, 120, 182, 245, 228, 67, 13, 93, 26, 39, 212, 217, 13, 124, 58, 79, 122, 24, 95, 202, 167, 171, 44, 223] (tk ub0)), [], (gl 85 0 nw)⟩] belL) 22985 [(0, (loc12 w.params (tk u0_0) v0_0 (tk u0_2) (.ref 1107) (tk u0_4) (iv 100 (tk u0_5)) (tk u0_6) (.ref 1203) (tk u0_8) (.ref 1356) (tk u0_10) v0_5 (tk u0_12) v0_6 (tk u0_14) v0_7 (tk u0_16) v0_8 (tk (t + 5)) (.bool true) (tk (t1 + 252)) (.ref ((N + 1090) + 9)) (tk (t1 + 283)) (.ref ((N + 1090) + 707)))),
    (1, (sh1106 w.params uu (.ref ((N + 1090) + 671)))),
    (2, (sh1186 w.params uu (.bool false))),
    (3, (sh1202 w.params uu (iv 1 (tk (t + 1051))) (iv 2000 (tk (t + 6))) v3_7 v3_8 v3_9 v3_11 v3_12 v3_13 v3_14)),
    (4, ⟨(.type "dict"), none, (.dict #[⟨(Int.ofNat 0), (iv 0 (tk (t + 1056))), (.ref ((N + 1090) + 556))⟩] 1), #[]⟩),
    (5, (sh1260 w.params uu v5_1 (iv 0 (tk (t1 + 67))))),
    (6, (sh1273 w.params uu (iv 50 (tk (t1 + 56))))),
    (7, (sh1287 w.params uu (.ref ((N + 1090) + 16)))),
    (8, (ls #[(.ref 1291), (.ref 1350)] 1)),
    (9, (sh1349 w.params ua (iv 100 (tk u9_7)) (iv 50 (tk (t1 + 80))))),
    (10, ⟨(.ref 700), (some 1349), .plain, #[]⟩),
    (11, (ls #[(.ref 1367)] 1)),
    (12, ⟨(.type "tuple"), none, (.seq #[(sv "away" (tk u12_1)), (.bytes #[1, 1, 1, 1, 1, 1, 1, 1] (tk u12_3))] 0), #[]⟩),
    (13, (ls #[(.ref 1367)] 1)),
    (721, (ls #[] 0)),
    (30, (ls #[] 0))] .next 725 1562 lawCode p [] (tree 12 7) (mkT [(loc9 w.params (tk u0_0) v0_0 (tk u0_2) (.ref 1107) (tk u0_4) (iv 100 (tk u0_5)) (tk u0_6) (.ref 1203) (tk u0_8) (.ref 1356) (tk u0_10) v0_5 (tk u0_12) v0_6 (tk u0_14) v0_7 (tk u0_16) v0_8),
    (sh1106 w.params uu (.ref 1306)),
    (sh1186 w.params uu (.bool false)),
    (sh1202 w.params uu (iv 0 (tk u3_3)) v3_5 v3_7 v3_8 v3_9 v3_11 v3_12 v3_13 v3_14),
    ⟨(.type "dict"), none, (.dict #[] 0), #[]⟩,
    (sh1260 w.params uu v5_1 (iv 0 (tk u5_5))),
    (sh1273 w.params uu (iv 0 (tk u6_9))),
    (sh1287 w.params uu (.ref 1370)),
    (ls #[(.ref 1291), (.ref 1350)] 1),
    (sh1349 w.params ua (iv 100 (tk u9_7)) (iv 0 (tk u9_9))),
    ⟨(.ref 700), (some 1349), .plain, #[]⟩,
    (ls #[(.ref 1367)] 1),
    ⟨(.type "tuple"), none, (.seq #[(sv "away" (tk u12_1)), (.bytes #[1, 1, 1, 1, 1, 1, 1, 1] (tk u12_3))] 0), #[]⟩,
    (ls #[(.ref 1367)] 1)] 0 .nil) 0 0 0 (dec [0x112c0013c012c11c000112c0013c012c11c000112c011c12c01122200000011c1100100110c11112222, 0x13c012c11c000112c0013c012c11c000112c0013c012c11c000112c0013c012c11c000112c0013c012c11c000112c0013c012c11c, 0x1111111111311111111111101001017c111112122110ec16c0700dc2113c15c012c11c000112c13c, 0x131111111111110001017c11dc01bc1ac0001001bc1ac0001001bc1ac000101bc011222001ac1911, 0x19111111111111311111111111117c101ec11111111111111111111111111111, 0x2218c001000ec0021c101fc0fc00010001122201fc0cc3311fc01122200fc17c018c11111111111111, 0x3124c01122200fc09991111111111111111311111111111117c0021c23c01fc0fc00011fc112, 0x1026c129c027c0ec00010027c0ec00010027c0ec0001027c011222000ec0024c0fc000100011222024c0cc3, 0x111111111110100102ec1111100117c0000026c017c12dc024c0fc000124c00025c1026c1122218c026c, 0x1111111111111111000102ec133c031c30c00010031c30c00010031c30c0001031c0112220030c31, 0x1110001002ec100a00010134ca11222aa1911111111111131111111111112ec333, 0x134c11222111111111111111911111111111131111111111112ec1111111111, 0x1111111911111111111131111111111112ecb100111011110cc0001002ec100a034c, 0x10138c011222037c2fc25c2fc0125c2fc25c2ec36c00a000134cb100111011110cc02ec1122211111111, 0x31111111111110001017c13bc039c2bc00010039c2bc00010039c2bc0001039c011222002bc0038c37c38c, 0x11110100103dc1111109111111111111110100103cc1111117c911111111111111, 0x3dc100a00013ec1122201111111111111003dc100a0001013eca11222aa911111111, 0x11110cc0103fc11111b01111011101110cc0017c10003cc10112223dcb100111011110cc03dc, 0x41c40c000141c42c41c011222040c11b100111011110cc3fc1b100111011110cc3fc111b1001110cc, 0x11211131111111111110110017c10042c44c041c40c000141c00042c11222041c40c000141c00042c, 0x11110001017c10047c49c046c45c000146c47c11222046c45c000146c00047c046c45c000146c47c46c011222045c1, 0x52c4bc0001052c011222004bc004fc4cc00010001122204fc0cc3314fc01122204cc0100104dc104ec, 0x1111051c1111131111111111111111111111114ec1001051c154c052c4bc00010052c4bc0052c1, 0x1001002ac0059c1057c4ac000100011222057c0cc33157c01122204ac0111122201001001056c1, 0x4dc15dc04fc4cc00014fc00050c11122200158c10059c5bc057c4ac000157c00058c159c112221122211111, 0x111111111111111131111111111110105ec111114ec111122200150c14dc110000051c, 0x112221131111111111110111062c11114ec131111111111115ec11111111111111, 0x1111111211165c311111111111162c0065c10000011000100011222063c0cc33163c1111, 0x11000163c00064c11411111111111111211165c311111111111162c141111111, 0x1211165c311111111111162c1111111111111111211165c311111111111162c0065c163c, 0x11111211165c311111111111162c0065c10000011000163c00064c1111111111111111, 0x11000163c00064c11511111111111111211165c311111111111162c15111111111, 0x171c0006ec1111222067c071c64c0001071c011222064c00000070c000001064c00106ec110065c6dc63c, 0x111111114ec114dc73c071c64c000171c0006ec111122206bc071c64c000171c0006ec1111222069c071c64c071c, 0x76c78c075c74c000175c76c11222075c74c000175c00076c075c74c000175c76c75c011222074c14dc11211131111, 0x1017bc01122204cc0001100100107ac111110001001001001001001079c111114dc76c, 0x1222006ac02006ec0000107ac17ec07cc4bc0001007cc4bc0001007cc4bc000107cc011222004bc007bc4cc7bc, 0x83c01122204ac01082c111110100011000107ac181c07fc6ac0001007fc6ac0001007fc6ac000107fc6ac1, 0x2220141110112220086c1001002ac01086c1111101085c1083c4ac000100011222083c0cc331, 0x20112220112220112220087c1001002ac01087c11111011122201122201122286c11, 0x11110108cc108ac88c00010001122208ac0cc3318ac011222088c01089c1111111122287c11122, 0x8dc1011222111011222008ec10010001018fc111222111108ec1111101100108dc1, 0x1122211001122201001090c11111010111011101111111111110112220008dc1, 0x1091c0010090c10000000010193c00001122200001092c11111011090c106091c1190c11, 0x11001002ac87c08bc1008cc97c08ac88c00018ac0008bc1100000000091c1190c1195c0000193c001190c0091c, 0x9bc60c000109bc0112220060c0100100100109ac11111084c10085c99c083c4ac000183c00084c100086c, 0x1011010a0c11111011100109fc111117ac00011222000109ac19dc09bc60c0001009bc60c00019bc, 0x1222000010a3c11111100110010010a2c1111100110010a1c111119fc00100010019ec, 0x11222010010a5c1111101110010a1c1011222110100a2c100000000101a4c000a3c1, 0x100a5c100000000101a8c000011222000010a7c111110110a5c1060a6c11a5c111122211, 0x1100100010019ec10110109fc11000000000a6c11a5c11aac00001a8c0011a5c0000010a6c0a5c, 0x10010010acc11111011011011109fc101122200011110111010010abc11111119fc, 0x10adc11111acc001009ecacc001009ecacc001009ec011122200011111101100acc1001009ec, 0x1adc1b0cb2c0afcaec0001afc00b0c0afcaec0001afc0aecafc011222000000aec111101101101110010adc1, 0x100b6cb5c000100b6cb5c00010b6c01122200b5c17acb4c07bc4cc00017bc07ac11111110111119fc1111, 0x4bc001004cc1010010b9c111110010011001122201001001079c1b8c0b6cb5c000100b6cb5c0b6c, 0x14acc0c4ac00b9c4cc0000bdc01004cc100010b9c1bcc0bac4bc000100bac4bc000100bac4bc00010bac0112224bc, 0x200c2c00c6cc4c000101c6c0112220c4c000110010010c5c1111100010079c1c3cbecc3c01becc3cbecc0c4acc0c, 0x6ac00010cac011222006ac02006ec000010c5c1c9c0c7cc2c000100c7cc2c000100c7cc2c00010c7cc2c1122, 0x2220cec0cc331cec0112220c1c010cdc11111010001100010c5c1ccc0cac6ac000100cac6ac000100cac, 0x1122201122201411101122200d1c1001002ac010d1c11111010d0c10cecc1c000100cec11, 0x222011122201122201122201122200d2c1001002ac010d2c111110111222d1c11222, 0x110010d8c11111010d7c10d5cd3c0001000112220d5c0cc331d5c0112220d3c010d4c11111111, 0x122200001000d8c101122211101122200d9c1001000101dac11122211110d9c11111, 0x60dcc1101111222110011222010010dbc1111101011101110111111111111d8c1, 0xdec0011dbc0000010dcc00100dbc100000000101dec000011222000010ddc111110110dbc1, 0xcfc1000d1c11001002acd2c0d6c100d7ce2c0d5cd3c0001d5c000d6c11000000000dcc11dbc11e0c000dec1, 0xe5c11001001e4c00100bfc0111122200e3c100100bfc010e3c11111010d0c10cecc1c0001cec, 0x1e6c00e7c0e6ce5c0001e6c00e7c0e6ce5c0001e6c00e7c0e6ce5c0001e6c00e7c0e6ce5c0001e6c0e5ce6c0112220e5c, 0xe7c0e6ce5c0001e6c00e7c0e6ce5c0001e6c00e7c0e6ce5c0001e6c00e7c0e6ce5c0001e6c00e7c0e6ce5c0001e6c00e7c0e6ce5c, 0x1e6c00e7c0e6ce5c0001e6c00e7c0e6ce5c0001e6c00e7c0e6ce5c0001e6c00e7c0e6ce5c0001e6c00e7c0e6ce5c0001e6ce7c, 0x1cec000cfc11e7ce9c0e6ce5c0001e6c00e7c0e6ce5c0001e6c00e7c0e6ce5c0001e6c00e7c0e6ce5c0001e6c00e7c0e6ce5ce6c, 0xedc60c000100edc60c00010edc0112220060c010010010010ecc1111100000cfc100d0cebc0cecc1ccec, 0x10001001f0c1011010f2c1111101110010f1c11111c5c0001122200010ecc1efc0edc60c00edc1, 0x101f6c000011222000010f5c11111100110010010f4c1111100110010f3c11111f1c0f0c, 0x1111222110011222010010f7c1111101110010f3c1011222110100f4c10000000f6c, 0x10f8c00100f7c100000000101fac000011222000010f9c111110110f7c1060f8c11f7c, 0xfdc1111111f1c110010001001f0c1011010f1c11000000000f8c11f7c11fcc00001fac0011f7cf8c, 0xfec100100f0c010010010fec1111101101101110f1c10112220001111011101001fdc, 0x1110010010010ffc11111fec00100f0cfec00100f0cfec00100f0c0111222000111111011fec, 0x1111f1c11111ffc102d04d001d00d000101d0002d001d00d000101d000d01d01122200000000d1111011011ffc, 0x112220c4c00011001001007d111110001112220079c11c5c06d0c6cc4c0001c6c0c5c1111111f1c1, 0x2006ec00001007d10bd009dc2c00010009dc2c00010009dc2c0001009d01122200c2c0008dc4c00010108dc4c, 0xc1c0100fd1111101000110001007d10ed00cd6ac0001000cd6ac0001000cd6ac000100cd011222006ac, 0x110112220013d1001002ac01013d1111101012d1010dc1c000100011222010d0cc33110dc1c11222, 0x112220112220014d1001002ac01014d11111011122201122201122201122213d141, 0x19d1017d15d000100011222017d0cc33117d011222015d01016d11111111222011122214d11222, 0x1222111011222001bd10010001011cd111222111101bd1111101100101ad111110119d, 0x112220100101dd1111101011101110111111111111011222000010001ad11bd1, 0x1001dd10000000010120d0000112220000101fd1111101101dd10601ed111dd111122211, 0x2ac14d018d10019d24d017d15d000117d00018d110000000001ed111dd1122d0000120d00111dd00000101ed01dd, 0x100bfc011112220025d100100bfc01025d1111101012d1010dc1c000110d00011d100013d1100102ac, 0x29d028d27d000128d0029d028d27d000128d0029d028d27d000128d027d28d01122200000027d1100100126d0bfc, 0x128d0029d028d27d000128d0029d028d27d000128d0029d028d27d000128d0029d028d27d000128d0029d028d27d000128d, 0x29d028d27d000128d0029d028d27d000128d0029d028d27d000128d0029d028d27d000128d0029d028d27d000128d0029d028d27d, 0x128d0029d028d27d000128d0029d028d27d000128d0029d028d27d000128d0029d028d27d000128d0029d028d27d000128d29d, 0x2fd0112220060c0100100100102ed111110000011d10012d2dd010dc1c000110d00011d1129d2bd028d27d28d, 0x34d111110111001033d1111107d00011222000102ed131d02fd60c0001002fd60c0001002fd60c002fd1, 0x1037d1111110011001001036d111110011001035d1111133d001000100132d10110134d, 0x1001039d111110111001035d101122211010036d10000000010138d0000112220037d, 0x1013cd0000112220000103bd11111011039d10603ad110111122211039d11222, 0x100132d101101033d110000000003ad1139d113ed000013cd001139d00000103ad0010039d103cd, 0x1040d111110110110111033d1011222000111101110100103fd111111133d11001032d, 0x11140d0010032d40d0010032d40d0010032d01112220001111110110040d10010032d01001040d, 0x42d000143d0044d043d42d000143d042d43d01122200000042d11110110110111001001001041d11, 0x111011101110cc0017c101122279c07d48d008dc4c000108d007d111111101111133d1111141d144d46d043d, 0x10111111111111111111111111111111311111111111101049d1111117c11b0cc1, 0x1122204ed0cc3314ed111111222113111111111111011104dd111117c1311111111111, 0x1111114dd1411111111111111211150d31111111111114dd0050d100000110001004ed, 0x11111111114dd0050d1000001100014ed0004fd11411111111111111211150d3111111, 0x11111111111111111211150d31111111111114dd1111111111111111211150d311, 0x11114dd1511111111111111211150d31111111111114dd0050d1000001100014ed0004fd, 0x104fd001059d110050d58d0001100014ed0004fd11511111111111111211150d311111111, 0x59d1111222054d05cd4fd00015cd00059d1111222052d05cd4fd000105cd01122204fd0000005bd0004fd, 0x60d0112220c4c0001100100105fd1111117c5ed05cd4fd00015cd00059d1111222056d05cd4fd00015cd059d, 0x55d020059d0000105fd163d061dc2c00010061dc2c00010061dc2c0001061d01122200c2c0060dc4c000160d1, 0x220c1c01067d111110100011000105fd166d064d55d00010064d55d00010064d55d0001064d01122255d, 0x4111011222006bd1001002ac0106bd111110106ad1068dc1c000100011222068d0cc33168dc1c112, 0x22011222011222006cd1001002ac0106cd1111101112220112220112220112226bd1, 0x1071d106fd6dd00010001122206fd0cc3316fd01122206dd0106ed1111111122201112226cd112, 0x112221110112220073d100100010174d1112221111073d11111011001072d1111171d, 0x11001122201001075d11111010111011101111111111110112220000100072d1, 0x10075d10000000010178d00001122200001077d11111011075d106076d1175d1111222, 0x2ac6cd070d10071d7cd06fd6dd00016fd00070d1100000000076d1175d117ad0000178d001175d000001076d, 0x100bfc01111222007dd100100bfc0107dd111110106ad1068dc1c000168d00069d10006bd1102ac1, 0x180d0081d080d7fd000180d0081d080d7fd000180d0081d080d7fd000180d07fd80d0112220000007fd110010017ed, 0x80d7fd000180d0081d080d7fd000180d0081d080d7fd000180d0081d080d7fd000180d0081d080d7fd000180d0081d080d7fd0080d, 0x80d0081d080d7fd000180d0081d080d7fd000180d0081d080d7fd000180d0081d080d7fd000180d0081d080d7fd000180d0081d80d, 0x7fd000180d0081d080d7fd000180d0081d080d7fd000180d0081d080d7fd000180d0081d080d7fd000180d0081d080d7fd0080d1, 0x1087d011222004bd01001001001086d111110000069d1006ad85d068dc1c000168d00069d1181d83d080d, 0x108cd11111011100108bd111115fd000112220001086d189d087d4bd00010087d4bd00010087d4bd087d, 0x108fd111111001100100108ed11111001100108dd111118bd00100010018ad10118cd, 0x2201001091d11111011100108dd10112221101008ed10000000010190d0000112228fd, 0x10194d00001122200001093d11111011091d106092d110111122211091d112, 0x10018ad10110108bd1100000000092d1191d1196d0000194d001191d000001092d0010091d1, 0x1098d11111011011011108bd10112220001111011101001097d11111118bd1108ad1, 0x1111198d001008ad98d001008ad98d001008ad01112220001111110110098d1001008ad01098d1, 0x9bd9ad00019bd009cd09bd9ad00019bd09ad9bd0112220000009ad11110110110111001001001099d, 0x1111011101110cc010010a1d111115fda0d060dc4c000160d05fd11111110111118bd1111199d19cd9ed, 0xa3d11b100111011110cca2d1b100111011110cca2d111b100111011110cc010a2d11111b0cc, 0x112220000a1d100a5da7d0a4da3d0001a4d000a5d112220a4da3d0001a4d000a5d0a4da3d0001a4da5da4da3d11222, 0x1000111211103111111111111010010010010a8d1111117c100100c2c00100c4c017c1, 0x1110555111111111111111115111111111111010a9d1111151111111111111, 0x1111111111111111111113111111111111010aad111110110a8d115111111111, 0x1000112220aed0cc331aed0112220c1c010add11111010a8d3111111111111aad111111111, 0x1122201122201122201411101122200b1d1001002ac010b1d11111010b0d10aedc1c00aed, 0x111111222011122201122201122201122200b2d1001002ac010b2d11111b1d111222, 0xb9d111110110010b8d11111010b7d10b5db3d0001000112220b5d0cc331b5d0112220b3d010b4d11, 0x111101122200001000b8d101122211101122200b9d1001000101bad1112221111b9d, 0x110bbd1060bcd1101111222110011222010010bbd111110101110111b8d11111111, 0xc0d00001bed0011bbd0000010bcd00100bbd100000000101bed000011222000010bdd11111, 0xc1c0001aed000afd1000b1d11001002acb2d0b6d100b7dc2d0b5db3d0001b5d000b6d11000000000bcd11bbd11, 0x1222000000c5d11001001c4d00100bfc0111122200c3d100100bfc010c3d11111010b0d10aed, 0xc7d0c6dc5d0001c6d00c7d0c6dc5d0001c6d00c7d0c6dc5d0001c6d00c7d0c6dc5d0001c6d00c7d0c6dc5d0001c6d0c5dc6dc5d1, 0x1c6d00c7d0c6dc5d0001c6d00c7d0c6dc5d0001c6d00c7d0c6dc5d0001c6d00c7d0c6dc5d0001c6d00c7d0c6dc5d0001c6d, 0xc7d0c6dc5d0001c6d00c7d0c6dc5d0001c6d00c7d0c6dc5d0001c6d00c7d0c6dc5d0001c6d00c7d0c6dc5d0001c6d00c7d0c6dc5d, 0xb0dcbd0aedc1c0001aed000afd11c7dc9d0c6dc5d0001c6d00c7d0c6dc5d0001c6d00c7d0c6dc5d0001c6d00c7d0c6dc5d0001c6dc7d, 0xcddacd000100cddacd000100cddacd00010cdd01122200acd010010010010ccd1111100000afd10b0d, 0x11111211103111111111111051111111111110010a8d10001122200010ccd1cfdcdd, 0x11100110010d3d111110010d1d10010001001d0d1011010d2d111110110010010d1d11, 0x1222110100d4d100000000101d6d000011222000010d5d11111100110010010d4d11, 0xd9d111110110d7d1060d8d1101111222110011222010010d7d1111101110010d3d1d4d1, 0xd8d11d7d11dcd00001dad0011d7d0000010d8d00100d7d100000000101dad000011222000d9d1, 0x22200011110111010010ddd1111111d1d110010001001d0d1011010d1d110000000d8d, 0x11122200011111101100ded100100d0d010010010ded11111011011010010d1d1ddd11, 0x2000000e0d111101101101110010010010dfd11111ded00100d0dded00100d0dded00100d0dded, 0x110051111111111111100a8d100ca10d1d1dfd1e2de4d0e1de0d0001e1d00e2d0e1de0d0001e1d0e0de1de0d1122, 0x3ce11111111111111111111111111111100001100100100100103ae11111011a8d, 0x110101011113ce03de003be1101110101011113ce00100100100100103de111111113ce1, 0x103ee111113de1003be1101110101011113ce03de003be1101110101011113ce03de003be113ce1, 0x1222111111001002ac01042e1111101041e103fec1c00010001122203fe0cc3313fe0112220c1c, 0x12221122211111100100bfc01043e1111101041e103fec1c00013fe00040e141e11222112221, 0x1047e111113de1003be1101110101011113ce3de1146e40e81146e0822240e46e40e0041e45e03fec1c00013fe1, 0x1122200104ce001002ac0104be111110104ae1048ec1c000100011222048e0cc33148e0112220c1c, 0x49e14ae112221122200104ee00100bfc0104de111110104ae1048ec1c000148e00049e14ae11222, 0x11111110003ae1003be1101110101011113ce3de1151e49e81151e0822249e51e49e004ae50e048ec1c000148e, 0xa8d10555111111111111111103ae3be100111011113ce0666611222661663ae511111, 0x1113be100111011113ce08111111111111113111111111111a8d3be100111011113cea8d, 0x2221001002ac00100c1ca8d888111111111111111110811111111111101001052e11, 0x111011113ce0011111111111111111111111111111113111111111111a8d11, 0x56e055e54e000155e56e55e011222054e1117277703111111111111a8d111001053e111113be1, 0x1011101110cc0017c10757703111111111111a8d0056e58e055e54e000155e56e11222055e54e000155e, 0x19c17cbbb1101110101011110cc159eb100111011110cc01001059e111111117c11b0cc111, 0x131111111111115ee11105de105ee1111017c11122200119c117c115ce038c37c000138c00019c1017c19c, 0x1211161e31111111111115ee0061e1000001100010001122205fe0cc3315fe1111112221, 0x11111211161e31111111111115ee0061e1000001100015fe00060e1141111111111111, 0x111111111211161e31111111111115ee0061e1000001100015fe00060e111111111111, 0x106ae011222060e00000069e000001060e001067e110061e66e0001100015fe00060e11511111, 0x67e1111222064e06ae60e00016ae00067e1111222063e06ae60e00016ae00067e1111222062e06ae60e06ae, 0x110001016fe1111112221131111111111110001106de111115ee16ce06ae60e00016ae, 0x1141111111111111104111111111111000111211103111111111111006de16fe, 0x1000100011222072e0cc33172e110011222071e111111141111111111110111070e111, 0x1111111111006de1000001100016fe0000111122200106ee06de1122200173e174e76e0072e1, 0x1111110111077e111111111111111111110111111111111100011121116de311, 0x12220017ae17be7de00011000100011222079e0cc33179e110011222078e11111111111111, 0x1000111211103111111111111006de1000001100016fe0000111122200106ee06de1, 0x7fe66166665111111111111011107ee111115111111111111116de511111111111, 0x80e00081e13be100111011113ce0082e100000066000100011222080e0cc33180e6600112227fe, 0x16fe0000111122200106ee0051111111111116de1122200181e10082e84e000660080e1, 0x1111111115ee0100105de18ae088e87e00010088e87e00010088e87e0001088e0112220087e6de86e006fe11, 0x111111110108ce111111111111111111110108be111111111111111111113111, 0x8fe1122208ee8de00018ee0008fe08ee8de00018ee8fe8ee01122208de1111111111111118be11111111, 0x10311111111111101111131111111111111111111111115ee1008fe91e08ee8de00018ee, 0x1111111111111111111111101093e111115ee111111111111111311111111111, 0x111011001001001001001001001095e111115de141131111111111115ee1111131, 0x1000198e00099e16ee39ae0006ee97e09ae1001000100011222098e0cc33198e111222111111097e1, 0x1222099e1009ae9ce001000198e00099e16ee39ae0006ee97e09ae1001000198e00099e16ee39ae0006ee97e09ae198e, 0x111001100100100100109ee11111000095e1109de99e0001009de99e0001009de99e000109de99e1, 0x10001a0e009ee16ee39ee0006ee009ee10010001a0e009ee16ee39ee0006ee009ee1001000101a0e111222, 0x111010010010010a1e111110001000101122200112220009ee16ee39ee0006ee009ee10a0e, 0xa4e1001000101a5e11122211100110a4e111119eea3e0010001a0e0000111122200109fe09ee, 0xa4e19fe3a4e0009fe00a4e10010001a5e00a4e19fe3a4e0009fe00a4e10010001a5e00a4e19fe3a4e0009fe0a4e, 0x111111111111111911111111111131111111111115ee05de1a4ea8e0010001a5e0010a4e, 0x11100110abe111110110010010aae11111000105de11111111111111010a9e111111, 0x10001ace00abe167e3abe00067e00abe10010001ace00abe167e3abe00067e00abe1001000101ace111222, 0x110b1e11110105de100100a6eaae00100a6e00000aae1abeaee0010001ace00abe167e3abe00067e00abe10ace, 0xb1e0b4e10010001b2e000b3e16ee3b4e0006eeb1e0b4e10010001000112220b2e0cc331b2e1112221111, 0x10b7e0112220b3e100b4eb6e0010001b2e000b3e16ee3b4e0006eeb1e0b4e10010001b2e000b3e16ee3b4e0006ee, 0x331b8e011222019c222117c33311111111111111115ee5de0b7eb3e000100b7eb3e000100b7eb3e00b7e, 0x10bae1bde0bbe5ae000100bbe5ae000100bbe5ae00010bbe011222005ae00b8e19c0001000112220b8e0cc, 0x112220c1e0cc331c1e011222019c211c0eb9e811c0e08222b9ec0eb9e200000baebfe0b8e19c0001b8e000b9e1bae, 0x1222110110010c3e1c6e0c4e5ae000100c4e5ae000100c4e5ae00010c4e011222005ae00c1e19c00010c1e, 0xcae11111511111111111111211c9ec2e811c9e08222c2ec9ec2e00000c3ec8e0c1e19c0001c1e112221, 0x660001000112220cce0cc331cce6600112220cbe66166665111111111111cae111, 0x11111211222211222001cde100ceed0e000660001cce000cde13be100111011113ce00cee10cce, 0x10d2e0dc0001000112220d2e0cc331d2e01122200dc211d1eafe911d1e09222afed1eafe111231111111, 0xd3e20c2191111111111113111111111111200d4e221d6e0d2e0dc0001d2e11222001000ec00d4e, 0x11111010010d7e111119111111111111113111111111111211d3e20c811d3e0822220c, 0xd7e100a0001d8e112220111111111111100d7e100a000101d8ea11222aa91111111, 0x112220d9e0cc331d9e011222019c2111b100111011110cc011222d7eb100111011110ccd7e, 0xdae1110110010dbe1dee0dce5ae000100dce5ae000100dce5ae00010dce011222005ae00d9e19c0001d9e, 0x11222e4e0e1edae0001e1e000e2e0e1edae0001e1ee2ee1e0112220dae100000dbee0e0d9e19c0001d9e]) .nil
theorem cs_X12ha0 (w : World) (N t t1 ua u0_0 u0_2 u0_4 u0_5 u0_6 u0_8 u0_10 u0_12 u0_14 u0_16 u3_3 u5_5 u6_9 u9_7 u9_9 u12_1 u12_3 ub0 : Nat) (v0_0 v0_5 v0_6 v0_7 v0_8 v3_5 v3_7 v3_8 v3_9 v3_11 v3_12 v3_13 v3_14 v5_1 : Value) (nw : Nat → Obj) (uu : Nat) (p : Pos) : okR (r_p12ha0 w N t t1 ua u0_0 u0_2 u0_4 u0_5 u0_6 u0_8 u0_10 u0_12 u0_14 u0_16 u3_3 u5_5 u6_9 u9_7 u9_9 u12_1 u12_3 ub0 v0_0 v0_5 v0_6 v0_7 v0_8 v3_5 v3_7 v3_8 v3_9 v3_11 v3_12 v3_13 v3_14 v5_1 nw uu p) := by kernel_rfl
theorem p12ha0 {w : World} {s : Shared} {p : Pos} {N t t1 ua u0_0 u0_2 u0_4 u0_5 u0_6 u0_8 u0_10 u0_12 u0_14 u0_16 u3_3 u5_5 u6_9 u9_7 u9_9 u12_1 u12_3 ub0 : Nat} {v0_0 v0_5 v0_6 v0_7 v0_8 v3_5 v3_7 v3_8 v3_9 v3_11 v3_12 v3_13 v3_14 v5_1 : Value} {nw : Nat → Obj} {uu : Nat} (hN : s.heap.objs.size = (N + 1090)) (ht : s.toks = t + 1837) (hg : s.gens = #[]) (hk : AKT s.heap (kt2 w.params uu)) (h0 : Hs s 1095 (loc9 w.params (tk u0_0) v0_0 (tk u0_2) (.ref 1107) (tk u0_4) (iv 100 (tk u0_5)) (tk u0_6) (.ref 1203) (tk u0_8) (.ref 1356) (tk u0_10) v0_5 (tk u0_12) v0_6 (tk u0_14) v0_7 (tk u0_16) v0_8)) (h1 : Hs s 1106 (sh1106 w.params uu (.ref 1306))) (h2 : Hs s 1186 (sh1186 w.params uu (.bool false))) (h3 : Hs s 1202 (sh1202 w.params uu (iv 0 (tk u3_3)) v3_5 v3_7 v3_8 v3_9 v3_11 v3_12 v3_13 v3_14)) (h4 : Hs s 1205 ⟨(.type "dict"), none, (.dict #[] 0), #[]⟩) (h5 : Hs s 1260 (sh1260 w.params uu v5_1 (iv 0 (tk u5_5)))) (h6 : Hs s 1273 (sh1273 w.params uu (iv 0 (tk u6_9)))) (h7 : Hs s 1287 (sh1287 w.params uu (.ref 1370))) (h8 : Hs s 1294 (ls #[(.ref 1291), (.ref 1350)] 1)) (h9 : Hs s 1349 (sh1349 w.params ua (iv 100 (tk u9_7)) (iv 0 (tk u9_9)))) (h10 : Hs s 1350 ⟨(.ref 700), (some 1349), .plain, #[]⟩) (h11 : Hs s 1356 (ls #[(.ref 1367)] 1)) (h12 : Hs s 1367 ⟨(.type "tuple"), none, (.seq #[(sv "away" (tk u12_1)), (.bytes #[1, 1, 1, 1, 1, 1, 1, 1] (tk u12_3))] 0), #[]⟩) (h13 : Hs s 1370 (ls #[(.ref 1367)] 1)) (hs : segOK t [(1259, t1)]) {q0 : List (Addr × Obj)} {w0 : Nat → List Obj} (c0 : CallOK [(.func (fdBody (stm 97)) ⟨fdScope (stm 97), ((N + 1090) + 449), 3, [], (Str.ofString "put_packet.<locals>."), (some 375), (.ref 374), (some ((N + 1090) + 449)), 0⟩), (.func (fdBody (stm 110)) ⟨fdScope (stm 110), ((N + 1090) + 408), 3, [], (Str.ofString "sealed.<locals>."), (some 435), (.ref 434), (some ((N + 1090) + 408)), 0⟩), (.forLoop (forT (nthS 5 (fdBody (stm 113)))) (.ref ((N + 1090) + 40)) (forB (nthS 5 (fdBody (stm 113)))) (forO (nthS 5 (fdBody (stm 113)))) ⟨fdScope (stm 113), ((N + 1090) + 7), 3, [((Str.ofString "active"), ((N + 1090) + 8))], (Str.ofString "other_answers.<locals>."), (some 452), (.ref 451), (some ((N + 1090) + 7)), 0⟩), (.func (fdBody (stm 113)) ⟨fdScope (stm 113), ((N + 1090) + 7), 3, [((Str.ofString "active"), ((N + 1090) + 8))], (Str.ofString "other_answers.<locals>."), (some 452), (.ref 451), (some ((N + 1090) + 7)), 0⟩), lawCode] w (kt2 w.params uu) (.call (.ref 347) ⟨[(.bytes #[107] (tk (uu + 437))), (iv 0 (tk (t + 1056))), (.bytes #[64, 112, 101, 101, 114] (tk (t + 1258))), (.bytes #[0] (tk (t + 1209))), (.bytes #[27, 1, 1, 1, 1, 1, 1, 1, 1, 0, 0, 0, 0, 0, 0, 0, 0, 0, 0, 0, 0, 0, 0, 0, 0, 0, 0, 0] (tk (t + 1139)))], []⟩) (tk (t + 1259)) (tk t1) [] q0 (.bytes #[72, 112, 101, 101, 114, 130, 208, 15, 21, 98, 154, 165, 25, 229, 144, 29, 126, 212, 8, 5, 98, 32, 155, 0, 105, 14, 57, 120, 182, 245, 228, 67, 13, 93, 26, 39, 212, 217, 13, 124, 58, 79, 122, 24, 95, 202, 167, 171, 44, 223] (tk ub0)) [] w0) (e0 : w0 ((N + 1090) + 469) = (gl 85 0 nw)) (g0 : ∀ x ∈ q0, s.heap.get? x.1 = some x.2 ∧ x.1 ∉ [1095, 1106, 1186, 1202, 1205, 1260, 1273, 1287, 1294, 1349, 1350, 1356, 1367, 1370]) :
  wp (model PP w) Γf (execs (lawSl 12 7) lawEnv) (fun g _ s' => g = .next ∧ After s s' [1095, 1106, 1186, 1202, 1205, 1260, 1273, 1287, 1294, 1349, 1350, 1356, 1367, 1370] (N + 1090) 725 (tk (t1 + 302)) ∧ Hs s' 1095 (loc12 w.params (tk u0_0) v0_0 (tk u0_2) (.ref 1107) (tk u0_4) (iv 100 (tk u0_5)) (tk u0_6) (.ref 1203) (tk u0_8) (.ref 1356) (tk u0_10) v0_5 (tk u0_12) v0_6 (tk u0_14) v0_7 (tk u0_16) v0_8 (tk (t + 5)) (.bool true) (tk (t1 + 252)) (.ref ((N + 1090) + 9)) (tk (t1 + 283)) (.ref ((N + 1090) + 707))) ∧ Hs s' 1106 (sh1106 w.params uu (.ref ((N + 1090) + 671))) ∧ Hs s' 1186 (sh1186 w.params uu (.bool false)) ∧ Hs s' 1202 (sh1202 w.params uu (iv 1 (tk (t + 1051))) (iv 2000 (tk (t + 6))) v3_7 v3_8 v3_9 v3_11 v3_12 v3_13 v3_14) ∧ Hs s' 1205 ⟨(.type "dict"), none, (.dict #[⟨(Int.ofNat 0), (iv 0 (tk (t + 1056))), (.ref ((N + 1090) + 556))⟩] 1), #[]⟩ ∧ Hs s' 1260 (sh1260 w.params uu v5_1 (iv 0 (tk (t1 + 67)))) ∧ Hs s' 1273 (sh1273 w.params uu (iv 50 (tk (t1 + 56)))) ∧ Hs s' 1287 (sh1287 w.params uu (.ref ((N + 1090) + 16))) ∧ Hs s' 1294 (ls #[(.ref 1291), (.ref 1350)] 1) ∧ Hs s' 1349 (sh1349 w.params ua (iv 100 (tk u9_7)) (iv 50 (tk (t1 + 80)))) ∧ Hs s' 1350 ⟨(.ref 700), (some 1349), .plain, #[]⟩ ∧ Hs s' 1356 (ls #[(.ref 1367)] 1) ∧ Hs s' 1367 ⟨(.type "tuple"), none, (.seq #[(sv "away" (tk u12_1)), (.bytes #[1, 1, 1, 1, 1, 1, 1, 1] (tk u12_3))] 0), #[]⟩ ∧ Hs s' 1370 (ls #[(.ref 1367)] 1) ∧ Hs s' ((N + 1090) + 707) (ls #[] 0) ∧ Hs s' ((N + 1090) + 16) (ls #[] 0)) (fun _ _ _ => False) p s := by
  have hkb := kb_of w.params uu (l := [1095, 1106, 1186, 1202, 1205, 1260, 1273, 1287, 1294, 1349, 1350, 1356, 1367, 1370]) (by decide)
  exact Sem.wp_mono _ _ _ (fun g _ s' h => ⟨h.1, h.2.1, h.2.2 _ m0, h.2.2 _ m1, h.2.2 _ m2, h.2.2 _ m3, h.2.2 _ m4, h.2.2 _ m5, h.2.2 _ m6, h.2.2 _ m7, h.2.2 _ m8, h.2.2 _ m9, h.2.2 _ m10, h.2.2 _ m11, h.2.2 _ m12, h.2.2 _ m13, h.2.2 _ m14, h.2.2 _ m15⟩) (fun _ _ _ h => h) _ _ (tri (cs_X12ha0 w N t t1 ua u0_0 u0_2 u0_4 u0_5 u0_6 u0_8 u0_10 u0_12 u0_14 u0_16 u3_3 u5_5 u6_9 u9_7 u9_9 u12_1 u12_3 ub0 v0_0 v0_5 v0_6 v0_7 v0_8 v3_5 v3_7 v3_8 v3_9 v3_11 v3_12 v3_13 v3_14 v5_1 nw uu p) (by kernel_rfl) hkb (by decide) hN ht hg hk (mc h0 <| mc h1 <| mc h2 <| mc h3 <| mc h4 <| mc h5 <| mc h6 <| mc h7 <| mc h8 <| mc h9 <| mc h10 <| mc h11 <| mc h12 <| mc h13 <| mn) hs (fa_cons (fun RX => spOK_of rfl rfl (sp_base hkb hk) rfl rfl c0 e0 rfl rfl rfl rfl (sp_keep g0)) <| fa_nil))

end
end Mine
end
section
set_option maxRecDepth 100000
set_option linter.unusedVariables false
open PySem PySem.W PySem.Calls PyProof.Rows
open PySem.Sem (wp)
namespace Mine
noncomputable section
def r_p12ha1 (w : World) (N t t1 ua u0_0 u0_2 u0_4 u0_5 u0_6 u0_8 u0_10 u0_12 u0_14 u0_16 u3_3 u5_5 u6_9 u9_7 u9_9 u12_1 u12_3 ub0 : Nat) (v0_0 v0_5 v0_6 v0_7 v0_8 v3_5 v3_7 v3_8 v3_9 v3_11 v3_12 v3_13 v3_14 v5_1 : Value) (nw : Nat → Obj) (uu : Nat) (p : Pos) : St :=
  runE (VL w (kt2 w.params uu) [1095, 1106, 1186, 1202, 1205, 1260, 1273, 1287, 1294, 1349, 1350, 1356, 1367, 1370] (N + 1090) t [(1259, t1)] [⟨some [(.func (fdBody (stm 97)) ⟨fdScope (stm 97), ((N + 1090) + 449), 3, [], (Str.ofString "put_packet.<locals>."), (some 375), (.ref 374), (some ((N + 1090) + 449)), 0⟩), (.func (fdBody (stm 110)) ⟨fdScope (stm 110), ((N + 1090) + 408), 3, [], (Str.ofString "sealed.<locals>."), (some 435), (.ref 434), (some ((N + 1090) + 408)), 0⟩), (.forLoop (forT (nthS 5 (fdBody (stm 113)))) (.ref ((N + 1090) + 40)) (forB (nthS 5 (fdBody (stm 113)))) (forO (nthS 5 (fdBody (stm 113)))) ⟨fdScope (stm 113), ((N + 1090) + 7), 3, [((Str.ofString "active"), ((N + 1090) + 8))], (Str.ofString "other_answers.<locals>."), (some 452), (.ref 451), (some ((N + 1090) + 7)), 0⟩), (.func (fdBody (stm 113)) ⟨fdScope (stm 113), ((N + 1090) + 7), 3, [((Str.ofString "active"), ((N + 1090) + 8))], (Str.ofString "other_answers.<locals>."), (some 452), (.ref 451), (some ((N + 1090) + 7)), 0⟩), lawCode], (.call (.ref 347) ⟨[(.bytes #[107] (tk (uu + 437))), (iv 0 (tk (t + 1056))), (.bytes #[64, 112, 101, 101, 114] (tk (t + 1258))), (.bytes #[0] (tk (t + 1209))), (.bytes #[27, 1, 1, 1, 1, 1, 1, 1, 1, 0, 0, 0, 0, 0, 0, 0, 0, 0, 0, 0, 0, 0, 0, 0, 0, 0, 0, 0] (tk (t + 1139)))], []⟩), 1259, 469, 1, [], (.bytes #[72, 112, 101, 101, 114, 130, 208, 15, 21, 98, 154, 165, 25, 229, 144, 29, 126, 212, 8, 5, 98, 32, 155, 0, 105, 14, 57, 120, 182, 245, 228, 67, 13, 93, 26, 39, 212, 217, 13, 124, 58, 79, 122, 24, 95, 202, 167, 171, 44, 223] (tk ub0)), [], (gl 85 0 nw)⟩] belL) 22859 [(0, (loc12 w.params (tk u0_0) v0_0 (tk u0_2) (.ref 1107) (tk u0_4) (iv 100 (tk u0_5)) (tk u0_6) (.ref 1203) (tk u0_8) (.ref 1356) (tk u0_10) v0_5 (tk u0_12) v0_6 (tk u0_14) v0_7 (tk u0_16) v0_8 (tk (t + 5)) (.bool true) (tk (t1 + 247)) (.ref ((N + 1090) + 9)) (tk (t1 + 278)) (.ref ((N + 1090) + 700)))),
    (1, (sh1106 w.params uu (.ref ((N + 1090) + 664)))),
    (2, (sh1186 w.params uu (.bool true))),
    (3, (sh1202 w.params uu (iv 1 (tk (t + 1051))) (iv 2000 (tk (t + 6))) v3_7 v3_8 v3_9 v3_11 v3_12 v3_13 v3_14)),
    (4, ⟨(.type "dict"), none, (.dict #[⟨(Int.ofNat 0), (iv 0 (tk (t + 1056))), (.ref ((N + 1090) + 556))⟩] 1), #[]⟩),
    (5, (sh1260 w.params uu v5_1 (iv 0 (tk (t1 + 67))))),
    (6, (sh1273 w.params uu (iv 50 (tk (t1 + 56))))),
    (7, (sh1287 w.params uu (.ref ((N + 1090) + 16)))),
    (8, (ls #[(.ref 1291), (.ref 1350)] 1)),
    (9, (sh1349 w.params ua (iv 100 (tk u9_7)) (iv 50 (tk (t1 + 80))))),
    (10, ⟨(.ref 700), (some 1349), .plain, #[]⟩),
    (11, (ls #[(.ref 1367)] 1)),
    (12, ⟨(.type "tuple"), none, (.seq #[(sv "away" (tk u12_1)), (.bytes #[1, 1, 1, 1, 1, 1, 1, 1] (tk u12_3))] 0), #[]⟩),
    (13, (ls #[(.ref 1367)] 1)),
    (714, (ls #[] 0)),
    (30, (ls #[] 0))] .next 718 1557 lawCode p [] (tree 12 7) (mkT [(loc9 w.params (tk u0_0) v0_0 (tk u0_2) (.ref 1107) (tk u0_4) (iv 100 (tk u0_5)) (tk u0_6) (.ref 1203) (tk u0_8) (.ref 1356) (tk u0_10) v0_5 (tk u0_12) v0_6 (tk u0_14) v0_7 (tk u0_16) v0_8),
    (sh1106 w.params uu (.ref 1306)),
    (sh1186 w.params uu (.bool true)),
    (sh1202 w.params uu (iv 0 (tk u3_3)) v3_5 v3_7 v3_8 v3_9 v3_11 v3_12 v3_13 v3_14),
    ⟨(.type "dict"), none, (.dict #[] 0), #[]⟩,
    (sh1260 w.params uu v5_1 (iv 0 (tk u5_5))),
    (sh1273 w.params uu (iv 0 (tk u6_9))),
    (sh1287 w.params uu (.ref 1370)),
    (ls #[(.ref 1291), (.ref 1350)] 1),
    (sh1349 w.params ua (iv 100 (tk u9_7)) (iv 0 (tk u9_9))),
    ⟨(.ref 700), (some 1349), .plain, #[]⟩,
    (ls #[(.ref 1367)] 1),
    ⟨(.type "tuple"), none, (.seq #[(sv "away" (tk u12_1)), (.bytes #[1, 1, 1, 1, 1, 1, 1, 1] (tk u12_3))] 0), #[]⟩,
    (ls #[(.ref 1367)] 1)] 0 .nil) 0 0 0 (dec [0x112c0013c012c11c000112c0013c012c11c000112c011c12c01122200000011c1100100110c11112222, 0x13c012c11c000112c0013c012c11c000112c0013c012c11c000112c0013c012c11c000112c0013c012c11c000112c0013c012c11c, 0x1111111111311111111111101001017c111112122110ec16c0700dc2113c15c012c11c000112c13c, 0x131111111111110001017c11dc01bc1ac0001001bc1ac0001001bc1ac000101bc011222001ac1911, 0x19111111111111311111111111117c101ec11111111111111111111111111111, 0x2218c001000ec0021c101fc0fc00010001122201fc0cc3311fc01122200fc17c018c11111111111111, 0x3124c01122200fc09991111111111111111311111111111117c0021c23c01fc0fc00011fc112, 0x1026c129c027c0ec00010027c0ec00010027c0ec0001027c011222000ec0024c0fc000100011222024c0cc3, 0x111111111110100102ec1111100117c0000026c017c12dc024c0fc000124c00025c1026c1122218c026c, 0x1111111111111111000102ec133c031c30c00010031c30c00010031c30c0001031c0112220030c31, 0x1110001002ec100a00010134ca11222aa1911111111111131111111111112ec333, 0x134c11222111111111111111911111111111131111111111112ec1111111111, 0x1111111911111111111131111111111112ecb100111011110cc0001002ec100a034c, 0x10138c011222037c2fc25c2fc0125c2fc25c2ec36c00a000134cb100111011110cc02ec1122211111111, 0x31111111111110001017c13bc039c2bc00010039c2bc00010039c2bc0001039c011222002bc0038c37c38c, 0x11110100103dc1111109111111111111110100103cc1111117c911111111111111, 0x3dc100a00013ec1122201111111111111003dc100a0001013eca11222aa911111111, 0x11110cc0103fc11111b01111011101110cc0017c10003cc10112223dcb100111011110cc03dc, 0x41c40c000141c42c41c011222040c11b100111011110cc3fc1b100111011110cc3fc111b1001110cc, 0x11211131111111111110110017c10042c44c041c40c000141c00042c11222041c40c000141c00042c, 0x11110001017c10047c49c046c45c000146c47c11222046c45c000146c00047c046c45c000146c47c46c011222045c1, 0x52c4bc0001052c011222004bc004fc4cc00010001122204fc0cc3314fc01122204cc0100104dc104ec, 0x1111051c1111131111111111111111111111114ec1001051c154c052c4bc00010052c4bc0052c1, 0x1001002ac0059c1057c4ac000100011222057c0cc33157c01122204ac0111122201001001056c1, 0x4dc15dc04fc4cc00014fc00050c11122200158c10059c5bc057c4ac000157c00058c159c112221122211111, 0x111111111111111131111111111110105ec111114ec111122200150c14dc110000051c, 0x112221131111111111110111062c11114ec131111111111115ec11111111111111, 0x1111111211165c311111111111162c0065c10000011000100011222063c0cc33163c1111, 0x11000163c00064c11411111111111111211165c311111111111162c141111111, 0x1211165c311111111111162c1111111111111111211165c311111111111162c0065c163c, 0x11111211165c311111111111162c0065c10000011000163c00064c1111111111111111, 0x11000163c00064c11511111111111111211165c311111111111162c15111111111, 0x171c0006ec1111222067c071c64c0001071c011222064c00000070c000001064c00106ec110065c6dc63c, 0x111111114ec114dc73c071c64c000171c0006ec111122206bc071c64c000171c0006ec1111222069c071c64c071c, 0x76c78c075c74c000175c76c11222075c74c000175c00076c075c74c000175c76c75c011222074c14dc11211131111, 0x1017bc01122204cc0001100100107ac111110001001001001001001079c111114dc76c, 0x1222006ac02006ec0000107ac17ec07cc4bc0001007cc4bc0001007cc4bc000107cc011222004bc007bc4cc7bc, 0x83c01122204ac01082c111110100011000107ac181c07fc6ac0001007fc6ac0001007fc6ac000107fc6ac1, 0x2220141110112220086c1001002ac01086c1111101085c1083c4ac000100011222083c0cc331, 0x20112220112220112220087c1001002ac01087c11111011122201122201122286c11, 0x11110108cc108ac88c00010001122208ac0cc3318ac011222088c01089c1111111122287c11122, 0x8dc1011222111011222008ec10010001018fc111222111108ec1111101100108dc1, 0x1122211001122201001090c11111010111011101111111111110112220008dc1, 0x1091c0010090c10000000010193c00001122200001092c11111011090c106091c1190c11, 0x11001002ac87c08bc1008cc97c08ac88c00018ac0008bc1100000000091c1190c1195c0000193c001190c0091c, 0x9bc60c000109bc0112220060c0100100100109ac11111084c10085c99c083c4ac000183c00084c100086c, 0x1011010a0c11111011100109fc111117ac00011222000109ac19dc09bc60c0001009bc60c00019bc, 0x1222000010a3c11111100110010010a2c1111100110010a1c111119fc00100010019ec, 0x11222010010a5c1111101110010a1c1011222110100a2c100000000101a4c000a3c1, 0x100a5c100000000101a8c000011222000010a7c111110110a5c1060a6c11a5c111122211, 0x1100100010019ec10110109fc11000000000a6c11a5c11aac00001a8c0011a5c0000010a6c0a5c, 0x10010010acc11111011011011109fc101122200011110111010010abc11111119fc, 0x10adc11111acc001009ecacc001009ecacc001009ec011122200011111101100acc1001009ec, 0x1adc1b0cb2c0afcaec0001afc00b0c0afcaec0001afc0aecafc011222000000aec111101101101110010adc1, 0x100b6cb5c000100b6cb5c00010b6c01122200b5c17acb4c07bc4cc00017bc07ac11111110111119fc1111, 0x4bc001004cc1010010b9c111110010011001122201001001079c1b8c0b6cb5c000100b6cb5c0b6c, 0x14acc0c4ac00b9c4cc0000bdc01004cc100010b9c1bcc0bac4bc000100bac4bc000100bac4bc00010bac0112224bc, 0x200c2c00c6cc4c000101c6c0112220c4c000110010010c5c1111100010079c1c3cbecc3c01becc3cbecc0c4acc0c, 0x6ac00010cac011222006ac02006ec000010c5c1c9c0c7cc2c000100c7cc2c000100c7cc2c00010c7cc2c1122, 0x2220cec0cc331cec0112220c1c010cdc11111010001100010c5c1ccc0cac6ac000100cac6ac000100cac, 0x1122201122201411101122200d1c1001002ac010d1c11111010d0c10cecc1c000100cec11, 0x222011122201122201122201122200d2c1001002ac010d2c111110111222d1c11222, 0x110010d8c11111010d7c10d5cd3c0001000112220d5c0cc331d5c0112220d3c010d4c11111111, 0x122200001000d8c101122211101122200d9c1001000101dac11122211110d9c11111, 0x60dcc1101111222110011222010010dbc1111101011101110111111111111d8c1, 0xdec0011dbc0000010dcc00100dbc100000000101dec000011222000010ddc111110110dbc1, 0xcfc1000d1c11001002acd2c0d6c100d7ce2c0d5cd3c0001d5c000d6c11000000000dcc11dbc11e0c000dec1, 0xe5c11001001e4c00100bfc0111122200e3c100100bfc010e3c11111010d0c10cecc1c0001cec, 0x1e6c00e7c0e6ce5c0001e6c00e7c0e6ce5c0001e6c00e7c0e6ce5c0001e6c00e7c0e6ce5c0001e6c0e5ce6c0112220e5c, 0xe7c0e6ce5c0001e6c00e7c0e6ce5c0001e6c00e7c0e6ce5c0001e6c00e7c0e6ce5c0001e6c00e7c0e6ce5c0001e6c00e7c0e6ce5c, 0x1e6c00e7c0e6ce5c0001e6c00e7c0e6ce5c0001e6c00e7c0e6ce5c0001e6c00e7c0e6ce5c0001e6c00e7c0e6ce5c0001e6ce7c, 0x1cec000cfc11e7ce9c0e6ce5c0001e6c00e7c0e6ce5c0001e6c00e7c0e6ce5c0001e6c00e7c0e6ce5c0001e6c00e7c0e6ce5ce6c, 0xedc60c000100edc60c00010edc0112220060c010010010010ecc1111100000cfc100d0cebc0cecc1ccec, 0x10001001f0c1011010f2c1111101110010f1c11111c5c0001122200010ecc1efc0edc60c00edc1, 0x101f6c000011222000010f5c11111100110010010f4c1111100110010f3c11111f1c0f0c, 0x1111222110011222010010f7c1111101110010f3c1011222110100f4c10000000f6c, 0x10f8c00100f7c100000000101fac000011222000010f9c111110110f7c1060f8c11f7c, 0xfdc1111111f1c110010001001f0c1011010f1c11000000000f8c11f7c11fcc00001fac0011f7cf8c, 0xfec100100f0c010010010fec1111101101101110f1c10112220001111011101001fdc, 0x1110010010010ffc11111fec00100f0cfec00100f0cfec00100f0c0111222000111111011fec, 0x1111f1c11111ffc102d04d001d00d000101d0002d001d00d000101d000d01d01122200000000d1111011011ffc, 0x112220c4c00011001001007d111110001112220079c11c5c06d0c6cc4c0001c6c0c5c1111111f1c1, 0x2006ec00001007d10bd009dc2c00010009dc2c00010009dc2c0001009d01122200c2c0008dc4c00010108dc4c, 0xc1c0100fd1111101000110001007d10ed00cd6ac0001000cd6ac0001000cd6ac000100cd011222006ac, 0x110112220013d1001002ac01013d1111101012d1010dc1c000100011222010d0cc33110dc1c11222, 0x112220112220014d1001002ac01014d11111011122201122201122201122213d141, 0x19d1017d15d000100011222017d0cc33117d011222015d01016d11111111222011122214d11222, 0x1222111011222001bd10010001011cd111222111101bd1111101100101ad111110119d, 0x112220100101dd1111101011101110111111111111011222000010001ad11bd1, 0x1001dd10000000010120d0000112220000101fd1111101101dd10601ed111dd111122211, 0x2ac14d018d10019d24d017d15d000117d00018d110000000001ed111dd1122d0000120d00111dd00000101ed01dd, 0x100bfc011112220025d100100bfc01025d1111101012d1010dc1c000110d00011d100013d1100102ac, 0x29d028d27d000128d0029d028d27d000128d0029d028d27d000128d027d28d01122200000027d1100100126d0bfc, 0x128d0029d028d27d000128d0029d028d27d000128d0029d028d27d000128d0029d028d27d000128d0029d028d27d000128d, 0x29d028d27d000128d0029d028d27d000128d0029d028d27d000128d0029d028d27d000128d0029d028d27d000128d0029d028d27d, 0x128d0029d028d27d000128d0029d028d27d000128d0029d028d27d000128d0029d028d27d000128d0029d028d27d000128d29d, 0x2fd0112220060c0100100100102ed111110000011d10012d2dd010dc1c000110d00011d1129d2bd028d27d28d, 0x34d111110111001033d1111107d00011222000102ed131d02fd60c0001002fd60c0001002fd60c002fd1, 0x1037d1111110011001001036d111110011001035d1111133d001000100132d10110134d, 0x1001039d111110111001035d101122211010036d10000000010138d0000112220037d, 0x1013cd0000112220000103bd11111011039d10603ad110111122211039d11222, 0x100132d101101033d110000000003ad1139d113ed000013cd001139d00000103ad0010039d103cd, 0x1040d111110110110111033d1011222000111101110100103fd111111133d11001032d, 0x11140d0010032d40d0010032d40d0010032d01112220001111110110040d10010032d01001040d, 0x42d000143d0044d043d42d000143d042d43d01122200000042d11110110110111001001001041d11, 0x111011101110cc0017c101122279c07d48d008dc4c000108d007d111111101111133d1111141d144d46d043d, 0x10111111111111111111111111111111311111111111101049d1111117c11b0cc1, 0x1122204ed0cc3314ed111111222113111111111111011104dd111117c1311111111111, 0x1111114dd1411111111111111211150d31111111111114dd0050d100000110001004ed, 0x11111111114dd0050d1000001100014ed0004fd11411111111111111211150d3111111, 0x11111111111111111211150d31111111111114dd1111111111111111211150d311, 0x11114dd1511111111111111211150d31111111111114dd0050d1000001100014ed0004fd, 0x104fd001059d110050d58d0001100014ed0004fd11511111111111111211150d311111111, 0x59d1111222054d05cd4fd00015cd00059d1111222052d05cd4fd000105cd01122204fd0000005bd0004fd, 0x60d0112220c4c0001100100105fd1111117c5ed05cd4fd00015cd00059d1111222056d05cd4fd00015cd059d, 0x55d020059d0000105fd163d061dc2c00010061dc2c00010061dc2c0001061d01122200c2c0060dc4c000160d1, 0x220c1c01067d111110100011000105fd166d064d55d00010064d55d00010064d55d0001064d01122255d, 0x4111011222006bd1001002ac0106bd111110106ad1068dc1c000100011222068d0cc33168dc1c112, 0x22011222011222006cd1001002ac0106cd1111101112220112220112220112226bd1, 0x1071d106fd6dd00010001122206fd0cc3316fd01122206dd0106ed1111111122201112226cd112, 0x112221110112220073d100100010174d1112221111073d11111011001072d1111171d, 0x11001122201001075d11111010111011101111111111110112220000100072d1, 0x10075d10000000010178d00001122200001077d11111011075d106076d1175d1111222, 0x2ac6cd070d10071d7cd06fd6dd00016fd00070d1100000000076d1175d117ad0000178d001175d000001076d, 0x100bfc01111222007dd100100bfc0107dd111110106ad1068dc1c000168d00069d10006bd1102ac1, 0x180d0081d080d7fd000180d0081d080d7fd000180d0081d080d7fd000180d07fd80d0112220000007fd110010017ed, 0x80d7fd000180d0081d080d7fd000180d0081d080d7fd000180d0081d080d7fd000180d0081d080d7fd000180d0081d080d7fd0080d, 0x80d0081d080d7fd000180d0081d080d7fd000180d0081d080d7fd000180d0081d080d7fd000180d0081d080d7fd000180d0081d80d, 0x7fd000180d0081d080d7fd000180d0081d080d7fd000180d0081d080d7fd000180d0081d080d7fd000180d0081d080d7fd0080d1, 0x1087d011222004bd01001001001086d111110000069d1006ad85d068dc1c000168d00069d1181d83d080d, 0x108cd11111011100108bd111115fd000112220001086d189d087d4bd00010087d4bd00010087d4bd087d, 0x108fd111111001100100108ed11111001100108dd111118bd00100010018ad10118cd, 0x2201001091d11111011100108dd10112221101008ed10000000010190d0000112228fd, 0x10194d00001122200001093d11111011091d106092d110111122211091d112, 0x10018ad10110108bd1100000000092d1191d1196d0000194d001191d000001092d0010091d1, 0x1098d11111011011011108bd10112220001111011101001097d11111118bd1108ad1, 0x1111198d001008ad98d001008ad98d001008ad01112220001111110110098d1001008ad01098d1, 0x9bd9ad00019bd009cd09bd9ad00019bd09ad9bd0112220000009ad11110110110111001001001099d, 0x1111011101110cc010010a1d111115fda0d060dc4c000160d05fd11111110111118bd1111199d19cd9ed, 0xa3d11b100111011110cca2d1b100111011110cca2d111b100111011110cc010a2d11111b0cc, 0x112220000a1d100a5da7d0a4da3d0001a4d000a5d112220a4da3d0001a4d000a5d0a4da3d0001a4da5da4da3d11222, 0x1000111211103111111111111010010010010a8d1111117c100100c2c00100c4c017c1, 0x1110555111111111111111115111111111111010a9d1111151111111111111, 0x1111111111111111111113111111111111010aad111110110a8d115111111111, 0x1000112220aed0cc331aed0112220c1c010add11111010a8d3111111111111aad111111111, 0x1122201122201122201411101122200b1d1001002ac010b1d11111010b0d10aedc1c00aed, 0x111111222011122201122201122201122200b2d1001002ac010b2d11111b1d111222, 0xb9d111110110010b8d11111010b7d10b5db3d0001000112220b5d0cc331b5d0112220b3d010b4d11, 0x111101122200001000b8d101122211101122200b9d1001000101bad1112221111b9d, 0x110bbd1060bcd1101111222110011222010010bbd111110101110111b8d11111111, 0xc0d00001bed0011bbd0000010bcd00100bbd100000000101bed000011222000010bdd11111, 0xc1c0001aed000afd1000b1d11001002acb2d0b6d100b7dc2d0b5db3d0001b5d000b6d11000000000bcd11bbd11, 0x1222000000c5d11001001c4d00100bfc0111122200c3d100100bfc010c3d11111010b0d10aed, 0xc7d0c6dc5d0001c6d00c7d0c6dc5d0001c6d00c7d0c6dc5d0001c6d00c7d0c6dc5d0001c6d00c7d0c6dc5d0001c6d0c5dc6dc5d1, 0x1c6d00c7d0c6dc5d0001c6d00c7d0c6dc5d0001c6d00c7d0c6dc5d0001c6d00c7d0c6dc5d0001c6d00c7d0c6dc5d0001c6d, 0xc7d0c6dc5d0001c6d00c7d0c6dc5d0001c6d00c7d0c6dc5d0001c6d00c7d0c6dc5d0001c6d00c7d0c6dc5d0001c6d00c7d0c6dc5d, 0xb0dcbd0aedc1c0001aed000afd11c7dc9d0c6dc5d0001c6d00c7d0c6dc5d0001c6d00c7d0c6dc5d0001c6d00c7d0c6dc5d0001c6dc7d, 0xcddacd000100cddacd000100cddacd00010cdd01122200acd010010010010ccd1111100000afd10b0d, 0x11111211103111111111111051111111111110010a8d10001122200010ccd1cfdcdd, 0x11100110010d3d111110010d1d10010001001d0d1011010d2d111110110010010d1d11, 0x1222110100d4d100000000101d6d000011222000010d5d11111100110010010d4d11, 0xd9d111110110d7d1060d8d1101111222110011222010010d7d1111101110010d3d1d4d1, 0xd8d11d7d11dcd00001dad0011d7d0000010d8d00100d7d100000000101dad000011222000d9d1, 0x22200011110111010010ddd1111111d1d110010001001d0d1011010d1d110000000d8d, 0x11122200011111101100ded100100d0d010010010ded11111011011010010d1d1ddd11, 0x2000000e0d111101101101110010010010dfd11111ded00100d0dded00100d0dded00100d0dded, 0x110051111111111111100a8d100ca10d1d1dfd1e2de4d0e1de0d0001e1d00e2d0e1de0d0001e1d0e0de1de0d1122, 0x3ce11111111111111111111111111111100001100100100100103ae11111011a8d, 0x110101011113ce03de003be1101110101011113ce00100100100100103de111111113ce1, 0x103ee111113de1003be1101110101011113ce03de003be1101110101011113ce03de003be113ce1, 0x1222111111001002ac01042e1111101041e103fec1c00010001122203fe0cc3313fe0112220c1c, 0x12221122211111100100bfc01043e1111101041e103fec1c00013fe00040e141e11222112221, 0x1047e111113de1003be1101110101011113ce3de1146e40e81146e0822240e46e40e0041e45e03fec1c00013fe1, 0x1122200104ce001002ac0104be111110104ae1048ec1c000100011222048e0cc33148e0112220c1c, 0x49e14ae112221122200104ee00100bfc0104de111110104ae1048ec1c000148e00049e14ae11222, 0x11111110003ae1003be1101110101011113ce3de1151e49e81151e0822249e51e49e004ae50e048ec1c000148e, 0xa8d10555111111111111111103ae3be100111011113ce0666611222661663ae511111, 0x1113be100111011113ce08111111111111113111111111111a8d3be100111011113cea8d, 0x2221001002ac00100c1ca8d888111111111111111110811111111111101001052e11, 0x111011113ce0011111111111111111111111111111113111111111111a8d11, 0x56e055e54e000155e56e55e011222054e1117277703111111111111a8d111001053e111113be1, 0x1011101110cc0017c10757703111111111111a8d0056e58e055e54e000155e56e11222055e54e000155e, 0x19c17cbbb1101110101011110cc159eb100111011110cc01001059e111111117c11b0cc111, 0x131111111111115ee11105de105ee1111017c11122200119c117c115ce038c37c000138c00019c1017c19c, 0x1211161e31111111111115ee0061e1000001100010001122205fe0cc3315fe1111112221, 0x11111211161e31111111111115ee0061e1000001100015fe00060e1141111111111111, 0x111111111211161e31111111111115ee0061e1000001100015fe00060e111111111111, 0x106ae011222060e00000069e000001060e001067e110061e66e0001100015fe00060e11511111, 0x67e1111222064e06ae60e00016ae00067e1111222063e06ae60e00016ae00067e1111222062e06ae60e06ae, 0x110001016fe1111112221131111111111110001106de111115ee16ce06ae60e00016ae, 0x111122200106ee004111111111111000111211103111111111111006de16fe, 0x11111101111111111111000111211103111111111111006de1000001100016fe, 0x22072e0cc33172e110011222071e111111111111111111110111070e11111111111111, 0x6de1000001100016fe0000111122200106ee06de1122200173e174e76e0001100010072e112, 0x77e11111511111111111111051111111111110001112111031111111111116de, 0x66000100011222079e0cc33179e660011222078e66166665111111111111011177e, 0x11111111116de112220017ae1007be7de00066000179e0007ae13be100111011113ce007be10079e, 0x81e80e00010081e80e0001081e0112220080e6de7fe0001100016fe0000111122200106ee06de511, 0x11111101084e1111111111111111111131111111111115ee0100105de183e081e80e0081e1, 0x88e87e011222086e11111111111111184e111111111111111101085e11111111111111, 0x111111111111111111115ee10088e8ae087e86e000187e88e11222087e86e000187e00088e087e86e000187e, 0x8ce1111101111111111111113111111111111031111111111115ee1111131111, 0x108ee111115de141131111111111115ee111113111111111111111111111111018ce, 0x100011222091e0cc33191e111222111111090e111101100100100100100100108ee, 0x93e0006ee90e093e1001000191e00092e16ee393e0006ee90e093e1001000191e00092e16ee393e0006ee90e093e1091e1, 0x8ee11096e92e00010096e92e00010096e92e0001096e011222092e10093e95e001000191e00092e16ee3, 0x199e0097e16ee397e0006ee0097e100100010199e1112221110011001001001001097e11111, 0x1011222001122200097e16ee397e0006ee0097e1001000199e0097e16ee397e0006ee0097e1001099e, 0x9de1111197e9ce001000199e00001111222001098e097e1110100100100109ae11111000197e, 0x9de198e39de00098e009de100100019ee009de198e39de00098e009de10010001019ee11122211100119de, 0x1131111111111115ee05de19dea1e00100019ee001000009de198e39de00098e009de100100019ee09de, 0x1111000105de11111111111111010a2e11111111111111111111191111111111, 0x1a5e00a4e167e3a4e00067e00a4e1001000101a5e11122211100110a4e111110110010010a3e1, 0xa3e1a4ea7e0010001a5e00a4e167e3a4e00067e00a4e10010001a5e00a4e167e3a4e00067e00a4e10010a5e, 0xade10010001000112220abe0cc331abe1112221111110aae11110105de1001009fea3e001009fe, 0xace16ee3ade0006eeaae0ade10010001abe000ace16ee3ade0006eeaae0ade10010001abe000ace16ee3ade0006eeaaeade, 0x11111111115ee5de0b0eace000100b0eace000100b0eace00010b0e0112220ace100adeafe0010001abe0ace, 0x10b4e011222005ae00b1e19c0001000112220b1e0cc331b1e011222019c222117c333111111, 0x811b9e08222b2eb9eb2e200000b3eb8e0b1e19c0001b1e000b2e100010b3e1b6e0b4e5ae000100b4e5ae000100b4e5ae, 0x5ae000100bde5ae00010bde011222005ae00bae19c0001000112220bae0cc331bae011222019c211b9eb2e, 0xbbe811c2e08222bbec2ebbe00000bcec1e0bae19c0001bae1122211222110110010bce1bfe0bde5ae000100bde, 0x600112220c4e6616666511111111111101110c3e11111511111111111111211c2e, 0x660001c5e000c6e13be100111011113ce00c7e1000000660001000112220c5e0cc331c5e6, 0x22200dc211caea8e911cae09222a8ecaea8e11123111111111111211222211222001c6e100c7ec9e, 0x1111200cde221cfe0cbe0dc0001cbe11222001000ec00cde10cbe0dc0001000112220cbe0cc331cbe0dc11, 0x1111113111111111111211cce20c811cce0822220ccce20c219111111111111311111111, 0x111100d0e100a000101d1ea11222aa9111111111111010010d0e11111911111111, 0xb100111011110cc011222d0eb100111011110cc00d0e100a0001d1e11222d0e111111111, 0xd5e5ae000100d5e5ae00010d5e011222005ae00d2e19c0001000112220d2e0cc331d2e011222019c2111, 0xdaed3e0001daedbedae0112220d3e100000d4ed9e0d2e19c0001d2e000d3e1110110010d4e1d7e0d5e5ae00010d5e, 0x11222dde0daed3e0001dae000dbe]) .nil
theorem cs_X12ha1 (w : World) (N t t1 ua u0_0 u0_2 u0_4 u0_5 u0_6 u0_8 u0_10 u0_12 u0_14 u0_16 u3_3 u5_5 u6_9 u9_7 u9_9 u12_1 u12_3 ub0 : Nat) (v0_0 v0_5 v0_6 v0_7 v0_8 v3_5 v3_7 v3_8 v3_9 v3_11 v3_12 v3_13 v3_14 v5_1 : Value) (nw : Nat → Obj) (uu : Nat) (p : Pos) : okR (r_p12ha1 w N t t1 ua u0_0 u0_2 u0_4 u0_5 u0_6 u0_8 u0_10 u0_12 u0_14 u0_16 u3_3 u5_5 u6_9 u9_7 u9_9 u12_1 u12_3 ub0 v0_0 v0_5 v0_6 v0_7 v0_8 v3_5 v3_7 v3_8 v3_9 v3_11 v3_12 v3_13 v3_14 v5_1 nw uu p) := by kernel_rfl
theorem p12ha1 {w : World} {s : Shared} {p : Pos} {N t t1 ua u0_0 u0_2 u0_4 u0_5 u0_6 u0_8 u0_10 u0_12 u0_14 u0_16 u3_3 u5_5 u6_9 u9_7 u9_9 u12_1 u12_3 ub0 : Nat} {v0_0 v0_5 v0_6 v0_7 v0_8 v3_5 v3_7 v3_8 v3_9 v3_11 v3_12 v3_13 v3_14 v5_1 : Value} {nw : Nat → Obj} {uu : Nat} (hN : s.heap.objs.size = (N + 1090)) (ht : s.toks = t + 1837) (hg : s.gens = #[]) (hk : AKT s.heap (kt2 w.params uu)) (h0 : Hs s 1095 (loc9 w.params (tk u0_0) v0_0 (tk u0_2) (.ref 1107) (tk u0_4) (iv 100 (tk u0_5)) (tk u0_6) (.ref 1203) (tk u0_8) (.ref 1356) (tk u0_10) v0_5 (tk u0_12) v0_6 (tk u0_14) v0_7 (tk u0_16) v0_8)) (h1 : Hs s 1106 (sh1106 w.params uu (.ref 1306))) (h2 : Hs s 1186 (sh1186 w.params uu (.bool true))) (h3 : Hs s 1202 (sh1202 w.params uu (iv 0 (tk u3_3)) v3_5 v3_7 v3_8 v3_9 v3_11 v3_12 v3_13 v3_14)) (h4 : Hs s 1205 ⟨(.type "dict"), none, (.dict #[] 0), #[]⟩) (h5 : Hs s 1260 (sh1260 w.params uu v5_1 (iv 0 (tk u5_5)))) (h6 : Hs s 1273 (sh1273 w.params uu (iv 0 (tk u6_9)))) (h7 : Hs s 1287 (sh1287 w.params uu (.ref 1370))) (h8 : Hs s 1294 (ls #[(.ref 1291), (.ref 1350)] 1)) (h9 : Hs s 1349 (sh1349 w.params ua (iv 100 (tk u9_7)) (iv 0 (tk u9_9)))) (h10 : Hs s 1350 ⟨(.ref 700), (some 1349), .plain, #[]⟩) (h11 : Hs s 1356 (ls #[(.ref 1367)] 1)) (h12 : Hs s 1367 ⟨(.type "tuple"), none, (.seq #[(sv "away" (tk u12_1)), (.bytes #[1, 1, 1, 1, 1, 1, 1, 1] (tk u12_3))] 0), #[]⟩) (h13 : Hs s 1370 (ls #[(.ref 1367)] 1)) (hs : segOK t [(1259, t1)]) {q0 : List (Addr × Obj)} {w0 : Nat → List Obj} (c0 : CallOK [(.func (fdBody (stm 97)) ⟨fdScope (stm 97), ((N + 1090) + 449), 3, [], (Str.ofString "put_packet.<locals>."), (some 375), (.ref 374), (some ((N + 1090) + 449)), 0⟩), (.func (fdBody (stm 110)) ⟨fdScope (stm 110), ((N + 1090) + 408), 3, [], (Str.ofString "sealed.<locals>."), (some 435), (.ref 434), (some ((N + 1090) + 408)), 0⟩), (.forLoop (forT (nthS 5 (fdBody (stm 113)))) (.ref ((N + 1090) + 40)) (forB (nthS 5 (fdBody (stm 113)))) (forO (nthS 5 (fdBody (stm 113)))) ⟨fdScope (stm 113), ((N + 1090) + 7), 3, [((Str.ofString "active"), ((N + 1090) + 8))], (Str.ofString "other_answers.<locals>."), (some 452), (.ref 451), (some ((N + 1090) + 7)), 0⟩), (.func (fdBody (stm 113)) ⟨fdScope (stm 113), ((N + 1090) + 7), 3, [((Str.ofString "active"), ((N + 1090) + 8))], (Str.ofString "other_answers.<locals>."), (some 452), (.ref 451), (some ((N + 1090) + 7)), 0⟩), lawCode] w (kt2 w.params uu) (.call (.ref 347) ⟨[(.bytes #[107] (tk (uu + 437))), (iv 0 (tk (t + 1056))), (.bytes #[64, 112, 101, 101, 114] (tk (t + 1258))), (.bytes #[0] (tk (t + 1209))), (.bytes #[27, 1, 1, 1, 1, 1, 1, 1, 1, 0, 0, 0, 0, 0, 0, 0, 0, 0, 0, 0, 0, 0, 0, 0, 0, 0, 0, 0] (tk (t + 1139)))], []⟩) (tk (t + 1259)) (tk t1) [] q0 (.bytes #[72, 112, 101, 101, 114, 130, 208, 15, 21, 98, 154, 165, 25, 229, 144, 29, 126, 212, 8, 5, 98, 32, 155, 0, 105, 14, 57, 120, 182, 245, 228, 67, 13, 93, 26, 39, 212, 217, 13, 124, 58, 79, 122, 24, 95, 202, 167, 171, 44, 223] (tk ub0)) [] w0) (e0 : w0 ((N + 1090) + 469) = (gl 85 0 nw)) (g0 : ∀ x ∈ q0, s.heap.get? x.1 = some x.2 ∧ x.1 ∉ [1095, 1106, 1186, 1202, 1205, 1260, 1273, 1287, 1294, 1349, 1350, 1356, 1367, 1370]) :
  wp (model PP w) Γf (execs (lawSl 12 7) lawEnv) (fun g _ s' => g = .next ∧ After s s' [1095, 1106, 1186, 1202, 1205, 1260, 1273, 1287, 1294, 1349, 1350, 1356, 1367, 1370] (N + 1090) 718 (tk (t1 + 297)) ∧ Hs s' 1095 (loc12 w.params (tk u0_0) v0_0 (tk u0_2) (.ref 1107) (tk u0_4) (iv 100 (tk u0_5)) (tk u0_6) (.ref 1203) (tk u0_8) (.ref 1356) (tk u0_10) v0_5 (tk u0_12) v0_6 (tk u0_14) v0_7 (tk u0_16) v0_8 (tk (t + 5)) (.bool true) (tk (t1 + 247)) (.ref ((N + 1090) + 9)) (tk (t1 + 278)) (.ref ((N + 1090) + 700))) ∧ Hs s' 1106 (sh1106 w.params uu (.ref ((N + 1090) + 664))) ∧ Hs s' 1186 (sh1186 w.params uu (.bool true)) ∧ Hs s' 1202 (sh1202 w.params uu (iv 1 (tk (t + 1051))) (iv 2000 (tk (t + 6))) v3_7 v3_8 v3_9 v3_11 v3_12 v3_13 v3_14) ∧ Hs s' 1205 ⟨(.type "dict"), none, (.dict #[⟨(Int.ofNat 0), (iv 0 (tk (t + 1056))), (.ref ((N + 1090) + 556))⟩] 1), #[]⟩ ∧ Hs s' 1260 (sh1260 w.params uu v5_1 (iv 0 (tk (t1 + 67)))) ∧ Hs s' 1273 (sh1273 w.params uu (iv 50 (tk (t1 + 56)))) ∧ Hs s' 1287 (sh1287 w.params uu (.ref ((N + 1090) + 16))) ∧ Hs s' 1294 (ls #[(.ref 1291), (.ref 1350)] 1) ∧ Hs s' 1349 (sh1349 w.params ua (iv 100 (tk u9_7)) (iv 50 (tk (t1 + 80)))) ∧ Hs s' 1350 ⟨(.ref 700), (some 1349), .plain, #[]⟩ ∧ Hs s' 1356 (ls #[(.ref 1367)] 1) ∧ Hs s' 1367 ⟨(.type "tuple"), none, (.seq #[(sv "away" (tk u12_1)), (.bytes #[1, 1, 1, 1, 1, 1, 1, 1] (tk u12_3))] 0), #[]⟩ ∧ Hs s' 1370 (ls #[(.ref 1367)] 1) ∧ Hs s' ((N + 1090) + 700) (ls #[] 0) ∧ Hs s' ((N + 1090) + 16) (ls #[] 0)) (fun _ _ _ => False) p s := by
  have hkb := kb_of w.params uu (l := [1095, 1106, 1186, 1202, 1205, 1260, 1273, 1287, 1294, 1349, 1350, 1356, 1367, 1370]) (by decide)
  exact Sem.wp_mono _ _ _ (fun g _ s' h => ⟨h.1, h.2.1, h.2.2 _ m0, h.2.2 _ m1, h.2.2 _ m2, h.2.2 _ m3, h.2.2 _ m4, h.2.2 _ m5, h.2.2 _ m6, h.2.2 _ m7, h.2.2 _ m8, h.2.2 _ m9, h.2.2 _ m10, h.2.2 _ m11, h.2.2 _ m12, h.2.2 _ m13, h.2.2 _ m14, h.2.2 _ m15⟩) (fun _ _ _ h => h) _ _ (tri (cs_X12ha1 w N t t1 ua u0_0 u0_2 u0_4 u0_5 u0_6 u0_8 u0_10 u0_12 u0_14 u0_16 u3_3 u5_5 u6_9 u9_7 u9_9 u12_1 u12_3 ub0 v0_0 v0_5 v0_6 v0_7 v0_8 v3_5 v3_7 v3_8 v3_9 v3_11 v3_12 v3_13 v3_14 v5_1 nw uu p) (by kernel_rfl) hkb (by decide) hN ht hg hk (mc h0 <| mc h1 <| mc h2 <| mc h3 <| mc h4 <| mc h5 <| mc h6 <| mc h7 <| mc h8 <| mc h9 <| mc h10 <| mc h11 <| mc h12 <| mc h13 <| mn) hs (fa_cons (fun RX => spOK_of rfl rfl (sp_base hkb hk) rfl rfl c0 e0 rfl rfl rfl rfl (sp_keep g0)) <| fa_nil))

end
end Mine
end
section
set_option maxRecDepth 100000
set_option linter.unusedVariables false
open PySem PySem.W PySem.Calls PyProof.Rows
open PySem.Sem (wp)
namespace Mine
noncomputable section
def r_p12hb0 (w : World) (N t t1 ua u0_0 u0_2 u0_4 u0_5 u0_6 u0_8 u0_10 u0_12 u0_14 u0_16 u3_3 u5_5 u6_9 u9_7 u9_9 u12_1 u12_3 u13_1 u13_3 ub0 : Nat) (v0_0 v0_5 v0_6 v0_7 v0_8 v3_5 v3_7 v3_8 v3_9 v3_11 v3_12 v3_13 v3_14 v5_1 : Value) (nw : Nat → Obj) (uu : Nat) (p : Pos) : St :=
  runE (VL w (kt2 w.params uu) [1095, 1106, 1186, 1202, 1205, 1260, 1273, 1287, 1294, 1349, 1350, 1356, 1366, 1375, 1378] (N + 1090) t [(1263, t1)] [⟨some [(.func (fdBody (stm 97)) ⟨fdScope (stm 97), ((N + 1090) + 452), 3, [], (Str.ofString "put_packet.<locals>."), (some 375), (.ref 374), (some ((N + 1090) + 452)), 0⟩), (.func (fdBody (stm 110)) ⟨fdScope (stm 110), ((N + 1090) + 411), 3, [], (Str.ofString "sealed.<locals>."), (some 435), (.ref 434), (some ((N + 1090) + 411)), 0⟩), (.forLoop (forT (nthS 5 (fdBody (stm 113)))) (.ref ((N + 1090) + 43)) (forB (nthS 5 (fdBody (stm 113)))) (forO (nthS 5 (fdBody (stm 113)))) ⟨fdScope (stm 113), ((N + 1090) + 7), 3, [((Str.ofString "active"), ((N + 1090) + 8))], (Str.ofString "other_answers.<locals>."), (some 452), (.ref 451), (some ((N + 1090) + 7)), 0⟩), (.func (fdBody (stm 113)) ⟨fdScope (stm 113), ((N + 1090) + 7), 3, [((Str.ofString "active"), ((N + 1090) + 8))], (Str.ofString "other_answers.<locals>."), (some 452), (.ref 451), (some ((N + 1090) + 7)), 0⟩), lawCode], (.call (.ref 347) ⟨[(.bytes #[107] (tk (uu + 437))), (iv 0 (tk (t + 1060))), (.bytes #[64, 112, 101, 101, 114] (tk (t + 1262))), (.bytes #[0] (tk (t + 1213))), (.bytes #[27, 1, 1, 1, 1, 1, 1, 1, 1, 0, 0, 0, 0, 0, 0, 0, 0, 0, 0, 0, 0, 0, 0, 0, 0, 0, 0, 0] (tk (t + 1143)))], []⟩), 1263, 472, 1, [], (.bytes #[72, 112, 101, 101, 114, 130, 208, 15, 21, 98, 154, 165, 25, 229, 144, 29, 126, 212, 8, 5, 98, 32, 155, 0, 105, 14, 57, 120, 182, 245, 228, 67, 13, 93, 26, 39, 212, 217, 13, 124, 58, 79, 122, 24, 95, 202, 167, 171, 44, 223] (tk ub0)), [], (gl 85 0 nw)⟩] belL) 23156 [(0, (loc12 w.params (tk u0_0) v0_0 (tk u0_2) (.ref 1107) (tk u0_4) (iv 100 (tk u0_5)) (tk u0_6) (.ref 1203) (tk u0_8) (.ref 1356) (tk u0_10) v0_5 (tk u0_12) v0_6 (tk u0_14) v0_7 (tk u0_16) v0_8 (tk (t + 5)) (.bool true) (tk (t1 + 252)) (.ref ((N + 1090) + 9)) (tk (t1 + 286)) (.ref ((N + 1090) + 710)))),
    (1, (sh1106 w.params uu (.ref ((N + 1090) + 674)))),
    (2, (sh1186 w.params uu (.bool false))),
    (3, (sh1202 w.params uu (iv 1 (tk (t + 1055))) (iv 2000 (tk (t + 6))) v3_7 v3_8 v3_9 v3_11 v3_12 v3_13 v3_14)),
    (4, ⟨(.type "dict"), none, (.dict #[⟨(Int.ofNat 0), (iv 0 (tk (t + 1060))), (.ref ((N + 1090) + 559))⟩] 1), #[]⟩),
    (5, (sh1260 w.params uu v5_1 (iv 0 (tk (t1 + 67))))),
    (6, (sh1273 w.params uu (iv 50 (tk (t1 + 56))))),
    (7, (sh1287 w.params uu (.ref ((N + 1090) + 16)))),
    (8, (ls #[(.ref 1291), (.ref 1350)] 1)),
    (9, (sh1349 w.params ua (iv 100 (tk u9_7)) (iv 50 (tk (t1 + 80))))),
    (10, ⟨(.ref 700), (some 1349), .plain, #[]⟩),
    (11, (ls #[(.ref 1366), (.ref 1375)] 2)),
    (12, ⟨(.type "tuple"), none, (.seq #[(sv "home" (tk u12_1)), (.bytes #[0, 0, 0, 0, 0, 0, 0, 0] (tk u12_3))] 0), #[]⟩),
    (13, ⟨(.type "tuple"), none, (.seq #[(sv "away" (tk u13_1)), (.bytes #[1, 1, 1, 1, 1, 1, 1, 1] (tk u13_3))] 0), #[]⟩),
    (14, (ls #[(.ref 1366), (.ref 1375)] 1)),
    (725, (ls #[(.ref 1366)] 1)),
    (31, (ls #[(.ref 1366)] 1))] .next 728 1569 lawCode p [] (tree 12 7) (mkT [(loc9 w.params (tk u0_0) v0_0 (tk u0_2) (.ref 1107) (tk u0_4) (iv 100 (tk u0_5)) (tk u0_6) (.ref 1203) (tk u0_8) (.ref 1356) (tk u0_10) v0_5 (tk u0_12) v0_6 (tk u0_14) v0_7 (tk u0_16) v0_8),
    (sh1106 w.params uu (.ref 1306)),
    (sh1186 w.params uu (.bool false)),
    (sh1202 w.params uu (iv 0 (tk u3_3)) v3_5 v3_7 v3_8 v3_9 v3_11 v3_12 v3_13 v3_14),
    ⟨(.type "dict"), none, (.dict #[] 0), #[]⟩,
    (sh1260 w.params uu v5_1 (iv 0 (tk u5_5))),
    (sh1273 w.params uu (iv 0 (tk u6_9))),
    (sh1287 w.params uu (.ref 1378)),
    (ls #[(.ref 1291), (.ref 1350)] 1),
    (sh1349 w.params ua (iv 100 (tk u9_7)) (iv 0 (tk u9_9))),
    ⟨(.ref 700), (some 1349), .plain, #[]⟩,
    (ls #[(.ref 1366), (.ref 1375)] 2),
    ⟨(.type "tuple"), none, (.seq #[(sv "home" (tk u12_1)), (.bytes #[0, 0, 0, 0, 0, 0, 0, 0] (tk u12_3))] 0), #[]⟩,
    ⟨(.type "tuple"), none, (.seq #[(sv "away" (tk u13_1)), (.bytes #[1, 1, 1, 1, 1, 1, 1, 1] (tk u13_3))] 0), #[]⟩,
    (ls #[(.ref 1366), (.ref 1375)] 1)] 0 .nil) 0 0 0 (dec [0x113c0014c013c12c000113c0014c013c12c000113c012c13c01122200000012c1100100111c11112222, 0x14c013c12c000113c0014c013c12c000113c0014c013c12c000113c0014c013c12c000113c0014c013c12c000113c0014c013c12c, 0x1111111111311111111111101001018c11111212210fc0ec17c0700dc2114c16c013c12c000113c14c, 0x131111111111110001018c11ec01cc1bc0001001cc1bc0001001cc1bc000101cc011222001bc1911, 0x19111111111111311111111111118c101fc11111111111111111111111111111, 0x2219c001000ec0022c1020c10c000100011222020c0cc33120c011222010c18c019c11111111111111, 0x1311111111111118c0022c24c020c10c000120c1122219c001000fc0022c1020c10c000120c00021c122c112, 0x28c011222000ec0025c10c000100011222025c0cc33125c011222010c18c999111111111111111, 0x102bc011222000fc0025c10c000125c1122219c0001027c12ac028c0ec00010028c0ec00010028c0ec000128c, 0x27c018c131c025c10c000125c00026c1027c1122219c0001027c12dc02bc0fc0001002bc0fc0001002bc0fc02bc, 0x10035c34c00010035c34c0001035c0112220034c311111111111101001032c1111100118c, 0xaa191111111111113111111111111033311111111111111110001032c137c035c34c, 0x11111111131111111111110111111111111100010032c100a00010138ca11222, 0x11111132cb100111011110cc00010032c100a000138c112221111111111111119111, 0x138cb100111011110cc032c1122211111111111111191111111111113111111, 0x1003dc2fc0001003dc2fc000103dc011222002fc003cc3bc0001013cc01122203bc33c26c33c0126c33c26c32c3ac038ca, 0x1111101001040c11111091111111111111131111111111110001018c13fc03dc2fc003dc, 0x110041c100a00010142ca11222aa911111111111101001041c1111140c9111111111, 0x10cc0018c100040c101122241cb100111011110cc0041c100a000142c1122241c11111111111, 0x11110cc43c1b100111011110cc43c111b100111011110cc01043c11111b0111101110cc11, 0x46c48c045c44c000145c00046c11222045c44c000145c00046c045c44c000145c46c45c011222044c11b100cc111, 0x2204ac49c00014ac0004bc04ac49c00014ac4bc4ac011222049c1011211131111111111110110018c1, 0x11222053c0cc33153c011222050c01001051c1052c11110001018c1004bc4dc04ac49c00014ac4bc112, 0x11111111152c1001055c158c056c4fc00010056c4fc00010056c4fc0001056c011222004fc0053c50c0053c1, 0x5bc0cc3315bc01122204ec011112220100100105ac11111055c111113111111111111111, 0x5dc5fc05bc4ec00015bc0005cc15dc1122211222111111001002ec005dc105bc4ec0001000112225bc, 0x1101062c1111152c111122200154c151c110000055c051c161c053c50c000153c00054c1112220015cc1, 0x11152c1311111111111162c11111111111111111111111111111131111111111, 0x69c10000011000100011222067c0cc33167c1111112221131111111111110111066c1, 0x11111211169c311111111111166c1411111111111111211169c311111111111166c69c, 0x111111111211169c311111111111166c0069c10000011000167c00068c114111111111, 0x10000011000167c00068c11111111111111111211169c311111111111166c1111111, 0x111211169c311111111111166c1511111111111111211169c311111111111166c0069c, 0x1222068c00000074c000001068c001072c110069c71c00011000167c00068c11511111111111, 0x1122206fc075c68c000175c00072c111122206dc075c68c000175c00072c111122206bc075c68c0001075c68c1, 0x7ac079c78c000179c7ac79c011222078c151c112111311111111111152c1151c77c075c68c000175c00072c11, 0x11111000100100100100100107dc1111151c007ac7cc079c78c000179c7ac11222079c78c000179c07ac, 0x10080c4fc00010080c4fc0001080c011222004fc007fc50c0001017fc011222050c0001100100107ec, 0x107ec185c083c6ec00010083c6ec00010083c6ec0001083c011222006ec020072c0000107ec182c080c4fc0080c, 0x8ac1111101089c1087c4ec000100011222087c0cc33187c01122204ec01086c11111010001107ec, 0x2ec0108bc111110111222011222011222011222014111011222008ac1001002ec8ac1, 0x3318ec01122208cc0108dc111111112220111222011222011222011222008bc10012ec, 0x10193c1112221111092c11111011001091c1111101090c108ec8cc00010001122208ec0cc, 0x10111011101111111111110112220000100091c10112221110112220092c1093c1, 0x1122200001096c11111011094c106095c110111122211001122201001094c1111191c, 0x8fc1100000000095c1194c1199c0000197c001194c000001095c0010094c10000000010197c0096c, 0x109ec11111088c10089c9dc087c4ec000187c00088c10008ac11001002ec8bc08fc10090c9bc08ec8cc00018ec008fc, 0x7ec00011222000109ec1a1c09fc64c0001009fc64c0001009fc64c000109fc0112220064c010010019ec, 0xa6c1111100110010a5c11111a3c0010001001a2c1011010a4c1111101110010a3c11111, 0xa5c1011222110100a6c100000000101a8c000011222000010a7c11111100110010a6c1, 0x10abc111110110a9c1060aac1101111222110011222010010a9c111110111001a5c, 0xaac11a9c11aec00001acc0011a9c0000010aac00100a9c100000000101acc000011222abc, 0x101122200011110111010010afc1111111a3c110010001001a2c1011010a3c11000aac, 0x100a2c011122200011111101100b0c100100a2c010010010b0c1111101101101110a3c, 0x11222000000b2c111101101101110010010010b1c11111b0c00100a2cb0c00100a2cb0c0a2c, 0xb9c17ecb8c07fc50c00017fc07ec1111111011111a3c11111b1c1b4cb6c0b3cb2c0001b3c00b4c0b3cb2c0001b3c0b2cb3c, 0x100112220100100107dc1bcc0bacb9c000100bacb9c000100bacb9c000100bacb9c00010bac011222b9c, 0xc0c0bec4fc000100bec4fc000100bec4fc00010bec011222004fc0010050c1010010bdc1111100107dc1, 0x10010010c9c111110001007dc1c7cc2cc7c01c2cc7cc2cc4c4ecc4c014ecc4c4ec00bdc50c0000c1c010050c100010bdc1, 0xc9c1cdc0cbcc6c000100cbcc6c000100cbcc6c00010cbc01122200c6c00cacc8c000101cac0112220c8c00c9c1, 0x10001100010c9c1d0c0cec6ec000100cec6ec000100cec6ec00010cec011222006ec020072c00001c9c, 0x1001002ec010d5c11111010d4c10d2cc5c0001000112220d2c0cc331d2c0112220c5c010d1c11111, 0x200d6c1001002ec010d6c11111011122201122201122201122201411101122200d5c, 0x112220d9c0cc331d9c0112220d7c010d8c111111112220111222011222011222d6c1122, 0x2200ddc1001000101dec11122211110ddc111110110010dcc11111010dbc10d9cd7c00010d9c, 0x10dfc111110101110111011111111111101122200001000dcc1011222111ddc112, 0x101e2c000011222000010e1c111110110dfc1060e0c1101111222110011222010dfc, 0xd7c0001d9c000dac11000000000e0c11dfc11e4c00001e2c0011dfc0000010e0c00100dfc100000e2c, 0x200e7c100100c3c010e7c11111010d4c10d2cc5c0001d2c000d3c1000d5c11001002ecd6c0dac100dbce6c0d9c, 0xebc0eace9c0001eac00ebc0eace9c0001eac0e9ceac011222000000e9c11001001e8c00100c3ce7c111122, 0x1eac00ebc0eace9c0001eac00ebc0eace9c0001eac00ebc0eace9c0001eac00ebc0eace9c0001eac00ebc0eace9c0001eac, 0xebc0eace9c0001eac00ebc0eace9c0001eac00ebc0eace9c0001eac00ebc0eace9c0001eac00ebc0eace9c0001eac00ebc0eace9c, 0x1eac00ebc0eace9c0001eac00ebc0eace9c0001eac00ebc0eace9c0001eac00ebc0eace9c0001eac00ebc0eace9c0001eacebc, 0x10010010010f0c1111100000d3c100d4cefc0d2cc5c0001d2c000d3c11ebcedc0eace9c0001eac00ebc0eace9ceac, 0x10f5c11111c9c0001122200010f0c1f3c0f1c64c000100f1c64c000100f1c64c00010f1c0112220064c, 0x110010010f8c1111100110010f7c11111f5c0010001001f4c1011010f6c111110111f5c, 0x101110010f7c1011222110100f8c100000000101fac000011222000010f9c111111f8c, 0x11222000010fdc111110110fbc1060fcc1101111222110011222010010fbc1111, 0x10f5c11000000000fcc11fbc1100d00001fec0011fbc0000010fcc00100fbc100000000101fecfdc, 0x1101110f5c10112220001111011101001001d1111111f5c110010001001f4c1011f5c, 0x100f4c02d00100f4c01112220001111110110002d100100f4c01001001002d11111f5c11, 0x4d000105d004d05d01122200000004d11110110110111001001001003d1111102d00100f4c02d, 0x111222007dc11c9c0ad0cacc8c0001cac0c9c1111111011111f5c1111103d106d08d005d04d000105d0006d005d, 0x1000ddc6c000100dd01122200c6c000cdc8c0001010cd0112220c8c0001100100100bd1111107dc, 0x10d6ec00010010d6ec00010010d6ec0001010d011222006ec020072c0000100bd10fd00ddc6c0001000ddc6c00dd, 0x1016d1014dc5c000100011222014d0cc33114d0112220c5c01013d111110100011000100bd112d10d, 0x111101112220112220112220112220141110112220017d1001002ec01017d11111, 0x222019d0101ad1111111122201112220112220112220112220018d1001002ec01018d1, 0x111222111101fd1111101100101ed111110101dd101bd19d00010001122201bd0cc3311bd19d11, 0x110111111111111011222000010001ed1011222111011222001fd100100010120d, 0x1023d11111011021d106022d110111122211001122201001021d111110101111ed1, 0x22d1121d1126d0000124d001121d000001022d0010021d10000000010124d00001122223d, 0x111101016d1014dc5c000114d00015d100017d11001002ec18d01cd1001dd28d01bd19d00011bd0001cd1100022d, 0x2bd00012cd02bd2cd0112220000002bd110010012ad00100c3c011112220029d100100c3c01029d1, 0x2dd02cd2bd00012cd002dd02cd2bd00012cd002dd02cd2bd00012cd002dd02cd2bd00012cd002dd02cd2bd00012cd002dd02cd, 0x12cd002dd02cd2bd00012cd002dd02cd2bd00012cd002dd02cd2bd00012cd002dd02cd2bd00012cd002dd02cd2bd00012cd, 0x2dd02cd2bd00012cd002dd02cd2bd00012cd002dd02cd2bd00012cd002dd02cd2bd00012cd002dd02cd2bd00012cd002dd02cd2bd, 0x110000015d10016d31d014dc5c000114d00015d112dd2fd02cd2bd00012cd002dd02cd2bd00012cd002dd02cd2bd00012cd2dd, 0x220001032d135d033d64c00010033d64c00010033d64c0001033d0112220064c01001001001032d111, 0x11001039d1111137d001000100136d101101038d111110111001037d111110bd0032d112, 0x21101003ad1000000001013cd0000112220000103bd111111001100100103ad11111, 0x111101103dd10603ed11011112221100112220100103dd111110111001039d13ad1122, 0x13dd1142d0000140d00113dd00000103ed001003dd10000000010140d0000112220000103fd1, 0x1111011101001043d111111137d11001000100136d101101037d110000000003ed1, 0x12220001111110110044d10010036d01001001044d111110110110111037d143d11222, 0x46d11110110110111001001001045d1111144d0010036d44d0010036d44d0010036d44d11, 0xc8c00010cd00bd111111101111137d1111145d148d4ad047d46d000147d0048d047d46d000147d046d47d01122246d, 0x1111131111111111110104dd1111118c11b01111011101110cc0018c10112227dc0bd4cd00cd, 0x1111111110111051d111118c131111111111114dd1111111111111111111111111, 0x54d311111111111151d0054d10000011000100011222052d0cc33152d111111222113111, 0x53d11411111111111111211154d311111111111151d14111111111111112111, 0x1111111151d1111111111111111211154d311111111111151d0054d10000011000152d, 0x11111111111151d0054d10000011000152d00053d11111111111111111211154d31111, 0x53d11511111111111111211154d311111111111151d1511111111111111211154d3, 0x222056d060d53d0001060d011222053d0000005fd000001053d00105dd110054d5cd00011000152d053d, 0x18c62d060d53d000160d0005dd111122205ad060d53d000160d0005dd1111222058d060d53d000160d0005dd1111, 0x10065dc6c0001065d01122200c6c0064dc8c00010164d0112220c8c00011001001063d11111, 0x6ad068d59d00010068d59d00010068d59d0001068d0112220059d02005dd00001063d167d065dc6c00010065dc6c, 0x110106ed106cdc5c00010001122206cd0cc3316cd0112220c5c0106bd1111101000110001063d1, 0x70d111110111222011222011222011222014111011222006fd1001002ec0106fd111, 0x11222071d01072d1111111122201112220112220112220112220070d1001002ec0170d, 0x178d1112221111077d11111011001076d1111101075d1073d71d000100011222073d0cc33173d71d, 0x11101111111111110112220000100076d10112221110112220077d1001000178d, 0x20000107bd11111011079d10607ad110111122211001122201001079d111110176d111, 0x7ad1179d117ed000017cd001179d00000107ad0010079d1000000001017cd0007bd1122, 0x81d111110106ed106cdc5c00016cd0006dd10006fd11001002ec70d074d10075d80d073d71d000173d00074d1107ad, 0x84d83d000184d083d84d01122200000083d1100100182d00100c3c011112220081d100100c3c0181d, 0x184d0085d084d83d000184d0085d084d83d000184d0085d084d83d000184d0085d084d83d000184d0085d084d83d000184d0085d, 0x84d83d000184d0085d084d83d000184d0085d084d83d000184d0085d084d83d000184d0085d084d83d000184d0085d084d83d0084d, 0x84d0085d084d83d000184d0085d084d83d000184d0085d084d83d000184d0085d084d83d000184d0085d084d83d000184d0085d84d, 0x1111000006dd1006ed89d06cdc5c00016cd0006dd1185d87d084d83d000184d0085d084d83d000184d0085d084d83d0084d1, 0x1222000108ad18dd08bd4fd0001008bd4fd0001008bd4fd000108bd011222004fd0100100100108ad1, 0x110011001091d111118fd00100010018ed101101090d11111011100108fd1111163d008ad1, 0x22211010092d10000000010194d00001122200001093d1111110011001001092d111, 0x97d11111011095d106096d110111122211001122201001095d111110111001091d192d11, 0x96d1195d119ad0000198d001195d000001096d0010095d10000000010198d0000112220000197d, 0x22000111101110100109bd11111118fd1100100010018ed10110108fd110000000096d, 0x111222000111111011009cd1001008ed0100100109cd11111011011011108fd19bd112, 0x20000009ed1111011011011100100100109dd111119cd001008ed9cd001008ed9cd001008ed9cd, 0x64dc8c000164d063d11111110111118fd111119dd1a0da2d09fd9ed00019fd00a0d09fd9ed00019fd09ed9fd9ed1122, 0x11110cca6d111b100111011110cc010a6d11111b01111011101110cc010010a5d1111163da4d, 0x112220a8da7d0001a8d000a9d0a8da7d0001a8da9da8d0112220a7d11b100111011110cca6d1b1001110cc, 0x10010010acd1111118c100100c6c00100c8c018c1112220000a5d100a9dabd0a8da7d0001a8d000a9d, 0x1111111111010add11111511111111111111000111211103111111111111acd1, 0x1111111010aed111110110acd115111111111111add55511111111111111111511, 0xb1d11111010acd3111111111111aed111111111111111111111111111111311111, 0x22200b5d1001002ec010b5d11111010b4d10b2dc5c0001000112220b2d0cc331b2d0112220c5c01b1d, 0x201122200b6d1001002ec010b6d111110111222011222011222011222014111b5d11, 0x1000112220b9d0cc331b9d0112220b7d010b8d111111112220111222011222b6d1122, 0x1101122200bdd1001000101bed11122211110bdd111110110010bcd11111010bbd10b9db7d, 0x22010010bfd111110101110111011111111111101122200001000bcd1bdd112221, 0x101c2d000011222000010c1d111110110bfd1060c0d1101111222110bfd112, 0xbbdc6d0b9db7d0001b9d000bad11000000000c0d11bfd11c4d00001c2d0011bfd0000010c0d00100bfd1, 0x111122200c7d100100c3c010c7d11111010b4d10b2dc5c0001b2d000b3d1000b5d11001002ecb6d0bad1, 0xc9d0001cad00cbd0cadc9d0001cad00cbd0cadc9d0001cad0c9dcad011222000000c9d11001001c8d00100c3cc7d, 0xcbd0cadc9d0001cad00cbd0cadc9d0001cad00cbd0cadc9d0001cad00cbd0cadc9d0001cad00cbd0cadc9d0001cad00cbd0cad, 0x1cad00cbd0cadc9d0001cad00cbd0cadc9d0001cad00cbd0cadc9d0001cad00cbd0cadc9d0001cad00cbd0cadc9d0001cad, 0xcbd0cadc9d0001cad00cbd0cadc9d0001cad00cbd0cadc9d0001cad00cbd0cadc9d0001cad00cbd0cadc9d0001cad00cbd0cadc9d, 0x22200b0d010010010010d0d1111100000b3d100b4dcfd0b2dc5c0001b2d000b3d11cbdcdd0cadc9d0001cadcbd, 0x11111111110010acd10001122200010d0d1d3d0d1db0d000100d1db0d000100d1db0d00010d1db0d11, 0x1001d4d1011010d6d111110110010010d5d1111111211103111111111111acd511, 0x11222000010d9d11111100110010010d8d1111100110010d7d111110010d5d1001d4d, 0x110011222010010dbd1111101110010d7d1011222110100d8d100000000101dad00d9d, 0x100dbd100000000101ded000011222000010ddd111110110dbd1060dcd11dbd1111222, 0x1d5d110010001001d4d1011010d5d11000000000dcd11dbd11e0d00001ded0011dbd0000010dcd, 0xd4d010010010e2d11111011011010010d5d101122200011110111010010e1d111111, 0x10010e3d11111e2d00100d4de2d00100d4de2d00100d4d011122200011111101100e2d10010d4d, 0xd5d1e3d1e6de8d0e5de4d0001e5d00e6d0e5de4d0001e5d0e4de5d011222000000e4d111101101101110010e3d, 0x111100001100100100100103ee111110110110051111111111111100acd100ca1d5d, 0x111140e001001001001001041e111111110140e11111111111111111111111111, 0x1140e041e003fe11011101010111140e041e003fe11011101010111140e041e003fe1101110140e1, 0x45e1043ec5c000100011222043e0cc33143e0112220c5c01042e1111141e1003fe110111010140e11, 0x11101045e1043ec5c000143e00044e145e112221122211222111111001002ec01046e1111145e1, 0x1140e41e114ae44e8114ae0822244e4ae44e0045e49e043ec5c000143e112221122211111100100c3c01047e11, 0x4ee104cec5c00010001122204ce0cc3314ce0112220c5c0104be1111141e1003fe110111010140e11, 0x1051e111110104ee104cec5c00014ce0004de14ee1122211222001050e001002ec0104fe111114ee1, 0x11140e41e1155e4de81155e082224de55e4de004ee54e04cec5c00014ce0004de14ee1122211222001052e00100c3c, 0x1110111140e066661122266166051111111111110003ee1003fe110111010140e1, 0x111113111111111111acd3fe1001110111140e00acd10555111111111111111103ee3fe1, 0x11111111110811111111111101001056e111113fe1001110111140eacd8111111111, 0x111111111111111113111111111111acd112221001002ec00100c5cacd8881111111, 0x77703111111111111acd111001057e111113fe1001110111140e0acd11111111111111, 0x111111acd005ae5ce059e58e000159e5ae11222059e58e000159e0005ae059e58e000159e5ae59e011222058e11172, 0x111011110cc0100105de111111118c11b01111011101110cc0018c107577acd3111111, 0x18c1112220011ac118c1160e03cc3bc00013cc0001ac1018c0001ac18cbbb1101110101011110cc15deb1, 0x11000100011222063e0cc33163e11111122211311111111111162e111061e1062e1111, 0x10000011000163e00064e11411111111111111211165e311111111111162e0065e10063e, 0x62e0065e10000011000163e00064e11111111111111111211165e311111111111162e0065e, 0x106be110065e6ae00011000163e00064e11511111111111111211165e3111111111111, 0x11222067e06ee64e00016ee0006be1111222066e06ee64e000106ee011222064e0000006de000001064e, 0x111111111100011071e1111162e170e06ee64e00016ee0006be1111222068e06ee64e00016ee0006be11, 0x11110001112111031111111111110071e1000001100010173e11111122211311, 0x22075e111111141111111111110111074e1111141111111111111171e411111111, 0x1111222001072e071e1122200177e178e7ae00011000100011222076e0cc33176e11075e112, 0x11111011111111111110001112111031111111111110071e10000011000173e72e, 0x207de0cc3317de11001122207ce11111111111111111111011107be111111111111111, 0x71e10000011000173e00001111222001072e071e112220017ee17fe81e000110001007de1122, 0x1111151111111111111105111111111111000111211103111111111111071e, 0x66000100011222084e0cc33184e660011222083e661666651111111111110111082e, 0x11111111171e1122200185e10086e88e00066000184e00085e13fe1001110111140e0086e100084e, 0x8ce8be0001008ce8be000108ce011222008be71e8ae00011000173e00001111222001072e071e5111, 0x111110108fe11111111111111111111311111111111162e01001061e18ee08ce8be00018ce, 0x92e011222091e1111111111111118fe111111111111111101090e111111111111111, 0x111111111111111111162e10093e95e092e91e000192e93e11222092e91e000192e00093e092e91e000192e93e, 0x11111011111111111111131111111111110311111111111162e11111311111, 0x99e1111161e1411311111111111162e11111311111111111111111111111101097e, 0x10001122209ce0cc3319ce11122211111109be1111011001001001001001001099e1, 0x72e9be09ee100100019ce0009de172e39ee00072e9be09ee100100019ce0009de172e39ee00072e9be09ee10019ce, 0x99e110a1e9de000100a1e9de000100a1e9de00010a1e01122209de1009eea0e00100019ce0009de172e39ee, 0x1a4e00a2e172e3a2e00072e00a2e1001000101a4e11122211100110010010010010a2e1111199e, 0x10112220011222000a2e172e3a2e00072e00a2e10010001a4e00a2e172e3a2e00072e00a2e100100a4e, 0x11111a2ea7e0010001a4e000011112220010a3e0a2e111010010010010a5e1111100010a2e, 0x1a3e3a8e000a3e00a8e10010001a9e00a8e1a3e3a8e000a3e00a8e1001000101a9e11122211100110a8e, 0x1311111111111162e061e1a8eace0010001a9e00100000a8e1a3e3a8e000a3e00a8e10010001a9e00a8e, 0x1110001061e11111111111111010ade111111111111111111111911111111111, 0x1b0e00afe16be3afe0006be00afe1001000101b0e11122211100110afe111110110010010aee11, 0xaee1afeb2e0010001b0e00afe16be3afe0006be00afe10010001b0e00afe16be3afe0006be00afe100100b0e, 0x10010001000112220b6e0cc331b6e1112221111110b5e111101061e100100aaeaee00100aaeaee, 0xb7e172e3b8e00072eb5e0b8e10010001b6e000b7e172e3b8e00072eb5e0b8e10010001b6e000b7e172e3b8e00072eb5e0b8e, 0x11111111162e61e0bbeb7e000100bbeb7e000100bbeb7e00010bbe0112220b7e100b8ebae0010001b6e00b7e, 0x10bfe011222005ee00bce1ac0001000112220bce0cc331bce01122201ac222118c3331111111, 0x11c4e08222bdec4ebde200000beec3e0bce1ac0001bce000bde100010bee1c1e0bfe5ee000100bfe5ee000100bfe5eebfe, 0x100c8e5ee00010c8e011222005ee00c5e1ac0001000112220c5e0cc331c5e01122201ac211c4ebde8, 0x811cde08222c6ecdec6e00000c7ecce0c5e1ac0001c5e1122211222110110010c7e1cae0c8e5ee000100c8e5ee, 0x112220cfe6616666511111111111101110cee11111511111111111111211cdec6e, 0x660001d0e000d1e13fe1001110111140e00d2e1000000660001000112220d0e0cc331d0e66, 0x2200dc211d5eb3e911d5e09222b3ed5eb3e11123111111111111211222211222001d1e100d2ed4ed0e, 0xfc00d8e10d6e0dc0001d6e000d7e1d8e11222001000ec00d8e10d6e0dc0001000112220d6e0cc331d6e0dc112, 0x22221cd7e21c2191111111111113111111111111200d8e221dae0d6e0dc0001d6e1122200100fc, 0x111111111010010dbe111119111111111111113111111111111211d7e21c811d7e21c8, 0x110cc00dbe100a0001dce112220111111111111100dbe100a000101dcea11222aa9111, 0x1000112220dde0cc331dde01122201ac2111b100111011110cc011222dbeb1001110cc11, 0x1dde000dee1110110010dfe1e2e0e0e5ee000100e0e5ee000100e0e5ee00010e0e011222005ee00dde1acdde, 0x11222e8e0e5edee0001e5e000e6e0e5edee0001e5ee6ee5e0112220dee100000dfee4e0dde1acdde]) .nil
theorem cs_X12hb0 (w : World) (N t t1 ua u0_0 u0_2 u0_4 u0_5 u0_6 u0_8 u0_10 u0_12 u0_14 u0_16 u3_3 u5_5 u6_9 u9_7 u9_9 u12_1 u12_3 u13_1 u13_3 ub0 : Nat) (v0_0 v0_5 v0_6 v0_7 v0_8 v3_5 v3_7 v3_8 v3_9 v3_11 v3_12 v3_13 v3_14 v5_1 : Value) (nw : Nat → Obj) (uu : Nat) (p : Pos) : okR (r_p12hb0 w N t t1 ua u0_0 u0_2 u0_4 u0_5 u0_6 u0_8 u0_10 u0_12 u0_14 u0_16 u3_3 u5_5 u6_9 u9_7 u9_9 u12_1 u12_3 u13_1 u13_3 ub0 v0_0 v0_5 v0_6 v0_7 v0_8 v3_5 v3_7 v3_8 v3_9 v3_11 v3_12 v3_13 v3_14 v5_1 nw uu p) := by kernel_rfl
theorem p12hb0 {w : World} {s : Shared} {p : Pos} {N t t1 ua u0_0 u0_2 u0_4 u0_5 u0_6 u0_8 u0_10 u0_12 u0_14 u0_16 u3_3 u5_5 u6_9 u9_7 u9_9 u12_1 u12_3 u13_1 u13_3 ub0 : Nat} {v0_0 v0_5 v0_6 v0_7 v0_8 v3_5 v3_7 v3_8 v3_9 v3_11 v3_12 v3_13 v3_14 v5_1 : Value} {nw : Nat → Obj} {uu : Nat} (hN : s.heap.objs.size = (N + 1090)) (ht : s.toks = t + 1837) (hg : s.gens = #[]) (hk : AKT s.heap (kt2 w.params uu)) (h0 : Hs s 1095 (loc9 w.params (tk u0_0) v0_0 (tk u0_2) (.ref 1107) (tk u0_4) (iv 100 (tk u0_5)) (tk u0_6) (.ref 1203) (tk u0_8) (.ref 1356) (tk u0_10) v0_5 (tk u0_12) v0_6 (tk u0_14) v0_7 (tk u0_16) v0_8)) (h1 : Hs s 1106 (sh1106 w.params uu (.ref 1306))) (h2 : Hs s 1186 (sh1186 w.params uu (.bool false))) (h3 : Hs s 1202 (sh1202 w.params uu (iv 0 (tk u3_3)) v3_5 v3_7 v3_8 v3_9 v3_11 v3_12 v3_13 v3_14)) (h4 : Hs s 1205 ⟨(.type "dict"), none, (.dict #[] 0), #[]⟩) (h5 : Hs s 1260 (sh1260 w.params uu v5_1 (iv 0 (tk u5_5)))) (h6 : Hs s 1273 (sh1273 w.params uu (iv 0 (tk u6_9)))) (h7 : Hs s 1287 (sh1287 w.params uu (.ref 1378))) (h8 : Hs s 1294 (ls #[(.ref 1291), (.ref 1350)] 1)) (h9 : Hs s 1349 (sh1349 w.params ua (iv 100 (tk u9_7)) (iv 0 (tk u9_9)))) (h10 : Hs s 1350 ⟨(.ref 700), (some 1349), .plain, #[]⟩) (h11 : Hs s 1356 (ls #[(.ref 1366), (.ref 1375)] 2)) (h12 : Hs s 1366 ⟨(.type "tuple"), none, (.seq #[(sv "home" (tk u12_1)), (.bytes #[0, 0, 0, 0, 0, 0, 0, 0] (tk u12_3))] 0), #[]⟩) (h13 : Hs s 1375 ⟨(.type "tuple"), none, (.seq #[(sv "away" (tk u13_1)), (.bytes #[1, 1, 1, 1, 1, 1, 1, 1] (tk u13_3))] 0), #[]⟩) (h14 : Hs s 1378 (ls #[(.ref 1366), (.ref 1375)] 1)) (hs : segOK t [(1263, t1)]) {q0 : List (Addr × Obj)} {w0 : Nat → List Obj} (c0 : CallOK [(.func (fdBody (stm 97)) ⟨fdScope (stm 97), ((N + 1090) + 452), 3, [], (Str.ofString "put_packet.<locals>."), (some 375), (.ref 374), (some ((N + 1090) + 452)), 0⟩), (.func (fdBody (stm 110)) ⟨fdScope (stm 110), ((N + 1090) + 411), 3, [], (Str.ofString "sealed.<locals>."), (some 435), (.ref 434), (some ((N + 1090) + 411)), 0⟩), (.forLoop (forT (nthS 5 (fdBody (stm 113)))) (.ref ((N + 1090) + 43)) (forB (nthS 5 (fdBody (stm 113)))) (forO (nthS 5 (fdBody (stm 113)))) ⟨fdScope (stm 113), ((N + 1090) + 7), 3, [((Str.ofString "active"), ((N + 1090) + 8))], (Str.ofString "other_answers.<locals>."), (some 452), (.ref 451), (some ((N + 1090) + 7)), 0⟩), (.func (fdBody (stm 113)) ⟨fdScope (stm 113), ((N + 1090) + 7), 3, [((Str.ofString "active"), ((N + 1090) + 8))], (Str.ofString "other_answers.<locals>."), (some 452), (.ref 451), (some ((N + 1090) + 7)), 0⟩), lawCode] w (kt2 w.params uu) (.call (.ref 347) ⟨[(.bytes #[107] (tk (uu + 437))), (iv 0 (tk (t + 1060))), (.bytes #[64, 112, 101, 101, 114] (tk (t + 1262))), (.bytes #[0] (tk (t + 1213))), (.bytes #[27, 1, 1, 1, 1, 1, 1, 1, 1, 0, 0, 0, 0, 0, 0, 0, 0, 0, 0, 0, 0, 0, 0, 0, 0, 0, 0, 0] (tk (t + 1143)))], []⟩) (tk (t + 1263)) (tk t1) [] q0 (.bytes #[72, 112, 101, 101, 114, 130, 208, 15, 21, 98, 154, 165, 25, 229, 144, 29, 126, 212, 8, 5, 98, 32, 155, 0, 105, 14, 57, 120, 182, 245, 228, 67, 13, 93, 26, 39, 212, 217, 13, 124, 58, 79, 122, 24, 95, 202, 167, 171, 44, 223] (tk ub0)) [] w0) (e0 : w0 ((N + 1090) + 472) = (gl 85 0 nw)) (g0 : ∀ x ∈ q0, s.heap.get? x.1 = some x.2 ∧ x.1 ∉ [1095, 1106, 1186, 1202, 1205, 1260, 1273, 1287, 1294, 1349, 1350, 1356, 1366, 1375, 1378]) :
  wp (model PP w) Γf (execs (lawSl 12 7) lawEnv) (fun g _ s' => g = .next ∧ After s s' [1095, 1106, 1186, 1202, 1205, 1260, 1273, 1287, 1294, 1349, 1350, 1356, 1366, 1375, 1378] (N + 1090) 728 (tk (t1 + 305)) ∧ Hs s' 1095 (loc12 w.params (tk u0_0) v0_0 (tk u0_2) (.ref 1107) (tk u0_4) (iv 100 (tk u0_5)) (tk u0_6) (.ref 1203) (tk u0_8) (.ref 1356) (tk u0_10) v0_5 (tk u0_12) v0_6 (tk u0_14) v0_7 (tk u0_16) v0_8 (tk (t + 5)) (.bool true) (tk (t1 + 252)) (.ref ((N + 1090) + 9)) (tk (t1 + 286)) (.ref ((N + 1090) + 710))) ∧ Hs s' 1106 (sh1106 w.params uu (.ref ((N + 1090) + 674))) ∧ Hs s' 1186 (sh1186 w.params uu (.bool false)) ∧ Hs s' 1202 (sh1202 w.params uu (iv 1 (tk (t + 1055))) (iv 2000 (tk (t + 6))) v3_7 v3_8 v3_9 v3_11 v3_12 v3_13 v3_14) ∧ Hs s' 1205 ⟨(.type "dict"), none, (.dict #[⟨(Int.ofNat 0), (iv 0 (tk (t + 1060))), (.ref ((N + 1090) + 559))⟩] 1), #[]⟩ ∧ Hs s' 1260 (sh1260 w.params uu v5_1 (iv 0 (tk (t1 + 67)))) ∧ Hs s' 1273 (sh1273 w.params uu (iv 50 (tk (t1 + 56)))) ∧ Hs s' 1287 (sh1287 w.params uu (.ref ((N + 1090) + 16))) ∧ Hs s' 1294 (ls #[(.ref 1291), (.ref 1350)] 1) ∧ Hs s' 1349 (sh1349 w.params ua (iv 100 (tk u9_7)) (iv 50 (tk (t1 + 80)))) ∧ Hs s' 1350 ⟨(.ref 700), (some 1349), .plain, #[]⟩ ∧ Hs s' 1356 (ls #[(.ref 1366), (.ref 1375)] 2) ∧ Hs s' 1366 ⟨(.type "tuple"), none, (.seq #[(sv "home" (tk u12_1)), (.bytes #[0, 0, 0, 0, 0, 0, 0, 0] (tk u12_3))] 0), #[]⟩ ∧ Hs s' 1375 ⟨(.type "tuple"), none, (.seq #[(sv "away" (tk u13_1)), (.bytes #[1, 1, 1, 1, 1, 1, 1, 1] (tk u13_3))] 0), #[]⟩ ∧ Hs s' 1378 (ls #[(.ref 1366), (.ref 1375)] 1) ∧ Hs s' ((N + 1090) + 710) (ls #[(.ref 1366)] 1) ∧ Hs s' ((N + 1090) + 16) (ls #[(.ref 1366)] 1)) (fun _ _ _ => False) p s := by
  have hkb := kb_of w.params uu (l := [1095, 1106, 1186, 1202, 1205, 1260, 1273, 1287, 1294, 1349, 1350, 1356, 1366, 1375, 1378]) (by decide)
  exact Sem.wp_mono _ _ _ (fun g _ s' h => ⟨h.1, h.2.1, h.2.2 _ m0, h.2.2 _ m1, h.2.2 _ m2, h.2.2 _ m3, h.2.2 _ m4, h.2.2 _ m5, h.2.2 _ m6, h.2.2 _ m7, h.2.2 _ m8, h.2.2 _ m9, h.2.2 _ m10, h.2.2 _ m11, h.2.2 _ m12, h.2.2 _ m13, h.2.2 _ m14, h.2.2 _ m15, h.2.2 _ m16⟩) (fun _ _ _ h => h) _ _ (tri (cs_X12hb0 w N t t1 ua u0_0 u0_2 u0_4 u0_5 u0_6 u0_8 u0_10 u0_12 u0_14 u0_16 u3_3 u5_5 u6_9 u9_7 u9_9 u12_1 u12_3 u13_1 u13_3 ub0 v0_0 v0_5 v0_6 v0_7 v0_8 v3_5 v3_7 v3_8 v3_9 v3_11 v3_12 v3_13 v3_14 v5_1 nw uu p) (by kernel_rfl) hkb (by decide) hN ht hg hk (mc h0 <| mc h1 <| mc h2 <| mc h3 <| mc h4 <| mc h5 <| mc h6 <| mc h7 <| mc h8 <| mc h9 <| mc h10 <| mc h11 <| mc h12 <| mc h13 <| mc h14 <| mn) hs (fa_cons (fun RX => spOK_of rfl rfl (sp_base hkb hk) rfl rfl c0 e0 rfl rfl rfl rfl (sp_keep g0)) <| fa_nil))

end
end Mine
end
section
set_option maxRecDepth 100000
set_option linter.unusedVariables false
open PySem PySem.W PySem.Calls PyProof.Rows
open PySem.Sem (wp)
namespace Mine
noncomputable section
def r_p12hb1 (w : World) (N t t1 ua u0_0 u0_2 u0_4 u0_5 u0_6 u0_8 u0_10 u0_12 u0_14 u0_16 u3_3 u5_5 u6_9 u9_7 u9_9 u12_1 u12_3 u13_1 u13_3 ub0 : Nat) (v0_0 v0_5 v0_6 v0_7 v0_8 v3_5 v3_7 v3_8 v3_9 v3_11 v3_12 v3_13 v3_14 v5_1 : Value) (nw : Nat → Obj) (uu : Nat) (p : Pos) : St :=
  runE (VL w (kt2 w.params uu) [1095, 1106, 1186, 1202, 1205, 1260, 1273, 1287, 1294, 1349, 1350, 1356, 1366, 1375, 1378] (N + 1090) t [(1263, t1)] [⟨some [(.func (fdBody (stm 97)) ⟨fdScope (stm 97), ((N + 1090) + 452), 3, [], (Str.ofString "put_packet.<locals>."), (some 375), (.ref 374), (some ((N + 1090) + 452)), 0⟩), (.func (fdBody (stm 110)) ⟨fdScope (stm 110), ((N + 1090) + 411), 3, [], (Str.ofString "sealed.<locals>."), (some 435), (.ref 434), (some ((N + 1090) + 411)), 0⟩), (.forLoop (forT (nthS 5 (fdBody (stm 113)))) (.ref ((N + 1090) + 43)) (forB (nthS 5 (fdBody (stm 113)))) (forO (nthS 5 (fdBody (stm 113)))) ⟨fdScope (stm 113), ((N + 1090) + 7), 3, [((Str.ofString "active"), ((N + 1090) + 8))], (Str.ofString "other_answers.<locals>."), (some 452), (.ref 451), (some ((N + 1090) + 7)), 0⟩), (.func (fdBody (stm 113)) ⟨fdScope (stm 113), ((N + 1090) + 7), 3, [((Str.ofString "active"), ((N + 1090) + 8))], (Str.ofString "other_answers.<locals>."), (some 452), (.ref 451), (some ((N + 1090) + 7)), 0⟩), lawCode], (.call (.ref 347) ⟨[(.bytes #[107] (tk (uu + 437))), (iv 0 (tk (t + 1060))), (.bytes #[64, 112, 101, 101, 114] (tk (t + 1262))), (.bytes #[0] (tk (t + 1213))), (.bytes #[27, 1, 1, 1, 1, 1, 1, 1, 1, 0, 0, 0, 0, 0, 0, 0, 0, 0, 0, 0, 0, 0, 0, 0, 0, 0, 0, 0] (tk (t + 1143)))], []⟩), 1263, 472, 1, [], (.bytes #[72, 112, 101, 101, 114, 130, 208, 15, 21, 98, 154, 165, 25, 229, 144, 29, 126, 212, 8, 5, 98, 32, 155, 0, 105, 14, 57, 120, 182, 245, 228, 67, 13, 93, 26, 39, 212, 217, 13, 124, 58, 79, 122, 24, 95, 202, 167, 171, 44, 223] (tk ub0)), [], (gl 85 0 nw)⟩] belL) 23030 [(0, (loc12 w.params (tk u0_0) v0_0 (tk u0_2) (.ref 1107) (tk u0_4) (iv 100 (tk u0_5)) (tk u0_6) (.ref 1203) (tk u0_8) (.ref 1356) (tk u0_10) v0_5 (tk u0_12) v0_6 (tk u0_14) v0_7 (tk u0_16) v0_8 (tk (t + 5)) (.bool true) (tk (t1 + 247)) (.ref ((N + 1090) + 9)) (tk (t1 + 281)) (.ref ((N + 1090) + 703)))),
    (1, (sh1106 w.params uu (.ref ((N + 1090) + 667)))),
    (2, (sh1186 w.params uu (.bool true))),
    (3, (sh1202 w.params uu (iv 1 (tk (t + 1055))) (iv 2000 (tk (t + 6))) v3_7 v3_8 v3_9 v3_11 v3_12 v3_13 v3_14)),
    (4, ⟨(.type "dict"), none, (.dict #[⟨(Int.ofNat 0), (iv 0 (tk (t + 1060))), (.ref ((N + 1090) + 559))⟩] 1), #[]⟩),
    (5, (sh1260 w.params uu v5_1 (iv 0 (tk (t1 + 67))))),
    (6, (sh1273 w.params uu (iv 50 (tk (t1 + 56))))),
    (7, (sh1287 w.params uu (.ref ((N + 1090) + 16)))),
    (8, (ls #[(.ref 1291), (.ref 1350)] 1)),
    (9, (sh1349 w.params ua (iv 100 (tk u9_7)) (iv 50 (tk (t1 + 80))))),
    (10, ⟨(.ref 700), (some 1349), .plain, #[]⟩),
    (11, (ls #[(.ref 1366), (.ref 1375)] 2)),
    (12, ⟨(.type "tuple"), none, (.seq #[(sv "home" (tk u12_1)), (.bytes #[0, 0, 0, 0, 0, 0, 0, 0] (tk u12_3))] 0), #[]⟩),
    (13, ⟨(.type "tuple"), none, (.seq #[(sv "away" (tk u13_1)), (.bytes #[1, 1, 1, 1, 1, 1, 1, 1] (tk u13_3))] 0), #[]⟩),
    (14, (ls #[(.ref 1366), (.ref 1375)] 1)),
    (718, (ls #[(.ref 1366)] 1)),
    (31, (ls #[(.ref 1366)] 1))] .next 721 1564 lawCode p [] (tree 12 7) (mkT [(loc9 w.params (tk u0_0) v0_0 (tk u0_2) (.ref 1107) (tk u0_4) (iv 100 (tk u0_5)) (tk u0_6) (.ref 1203) (tk u0_8) (.ref 1356) (tk u0_10) v0_5 (tk u0_12) v0_6 (tk u0_14) v0_7 (tk u0_16) v0_8),
    (sh1106 w.params uu (.ref 1306)),
    (sh1186 w.params uu (.bool true)),
    (sh1202 w.params uu (iv 0 (tk u3_3)) v3_5 v3_7 v3_8 v3_9 v3_11 v3_12 v3_13 v3_14),
    ⟨(.type "dict"), none, (.dict #[] 0), #[]⟩,
    (sh1260 w.params uu v5_1 (iv 0 (tk u5_5))),
    (sh1273 w.params uu (iv 0 (tk u6_9))),
    (sh1287 w.params uu (.ref 1378)),
    (ls #[(.ref 1291), (.ref 1350)] 1),
    (sh1349 w.params ua (iv 100 (tk u9_7)) (iv 0 (tk u9_9))),
    ⟨(.ref 700), (some 1349), .plain, #[]⟩,
    (ls #[(.ref 1366), (.ref 1375)] 2),
    ⟨(.type "tuple"), none, (.seq #[(sv "home" (tk u12_1)), (.bytes #[0, 0, 0, 0, 0, 0, 0, 0] (tk u12_3))] 0), #[]⟩,
    ⟨(.type "tuple"), none, (.seq #[(sv "away" (tk u13_1)), (.bytes #[1, 1, 1, 1, 1, 1, 1, 1] (tk u13_3))] 0), #[]⟩,
    (ls #[(.ref 1366), (.ref 1375)] 1)] 0 .nil) 0 0 0 (dec [0x113c0014c013c12c000113c0014c013c12c000113c012c13c01122200000012c1100100111c11112222, 0x14c013c12c000113c0014c013c12c000113c0014c013c12c000113c0014c013c12c000113c0014c013c12c000113c0014c013c12c, 0x1111111111311111111111101001018c11111212210fc0ec17c0700dc2114c16c013c12c000113c14c, 0x131111111111110001018c11ec01cc1bc0001001cc1bc0001001cc1bc000101cc011222001bc1911, 0x19111111111111311111111111118c101fc11111111111111111111111111111, 0x2219c001000ec0022c1020c10c000100011222020c0cc33120c011222010c18c019c11111111111111, 0x1311111111111118c0022c24c020c10c000120c1122219c001000fc0022c1020c10c000120c00021c122c112, 0x28c011222000ec0025c10c000100011222025c0cc33125c011222010c18c999111111111111111, 0x102bc011222000fc0025c10c000125c1122219c0001027c12ac028c0ec00010028c0ec00010028c0ec000128c, 0x27c018c131c025c10c000125c00026c1027c1122219c0001027c12dc02bc0fc0001002bc0fc0001002bc0fc02bc, 0x10035c34c00010035c34c0001035c0112220034c311111111111101001032c1111100118c, 0xaa191111111111113111111111111033311111111111111110001032c137c035c34c, 0x11111111131111111111110111111111111100010032c100a00010138ca11222, 0x11111132cb100111011110cc00010032c100a000138c112221111111111111119111, 0x138cb100111011110cc032c1122211111111111111191111111111113111111, 0x1003dc2fc0001003dc2fc000103dc011222002fc003cc3bc0001013cc01122203bc33c26c33c0126c33c26c32c3ac038ca, 0x1111101001040c11111091111111111111131111111111110001018c13fc03dc2fc003dc, 0x110041c100a00010142ca11222aa911111111111101001041c1111140c9111111111, 0x10cc0018c100040c101122241cb100111011110cc0041c100a000142c1122241c11111111111, 0x11110cc43c1b100111011110cc43c111b100111011110cc01043c11111b0111101110cc11, 0x46c48c045c44c000145c00046c11222045c44c000145c00046c045c44c000145c46c45c011222044c11b100cc111, 0x2204ac49c00014ac0004bc04ac49c00014ac4bc4ac011222049c1011211131111111111110110018c1, 0x11222053c0cc33153c011222050c01001051c1052c11110001018c1004bc4dc04ac49c00014ac4bc112, 0x11111111152c1001055c158c056c4fc00010056c4fc00010056c4fc0001056c011222004fc0053c50c0053c1, 0x5bc0cc3315bc01122204ec011112220100100105ac11111055c111113111111111111111, 0x5dc5fc05bc4ec00015bc0005cc15dc1122211222111111001002ec005dc105bc4ec0001000112225bc, 0x1101062c1111152c111122200154c151c110000055c051c161c053c50c000153c00054c1112220015cc1, 0x11152c1311111111111162c11111111111111111111111111111131111111111, 0x69c10000011000100011222067c0cc33167c1111112221131111111111110111066c1, 0x11111211169c311111111111166c1411111111111111211169c311111111111166c69c, 0x111111111211169c311111111111166c0069c10000011000167c00068c114111111111, 0x10000011000167c00068c11111111111111111211169c311111111111166c1111111, 0x111211169c311111111111166c1511111111111111211169c311111111111166c0069c, 0x1222068c00000074c000001068c001072c110069c71c00011000167c00068c11511111111111, 0x1122206fc075c68c000175c00072c111122206dc075c68c000175c00072c111122206bc075c68c0001075c68c1, 0x7ac079c78c000179c7ac79c011222078c151c112111311111111111152c1151c77c075c68c000175c00072c11, 0x11111000100100100100100107dc1111151c007ac7cc079c78c000179c7ac11222079c78c000179c07ac, 0x10080c4fc00010080c4fc0001080c011222004fc007fc50c0001017fc011222050c0001100100107ec, 0x107ec185c083c6ec00010083c6ec00010083c6ec0001083c011222006ec020072c0000107ec182c080c4fc0080c, 0x8ac1111101089c1087c4ec000100011222087c0cc33187c01122204ec01086c11111010001107ec, 0x2ec0108bc111110111222011222011222011222014111011222008ac1001002ec8ac1, 0x3318ec01122208cc0108dc111111112220111222011222011222011222008bc10012ec, 0x10193c1112221111092c11111011001091c1111101090c108ec8cc00010001122208ec0cc, 0x10111011101111111111110112220000100091c10112221110112220092c1093c1, 0x1122200001096c11111011094c106095c110111122211001122201001094c1111191c, 0x8fc1100000000095c1194c1199c0000197c001194c000001095c0010094c10000000010197c0096c, 0x109ec11111088c10089c9dc087c4ec000187c00088c10008ac11001002ec8bc08fc10090c9bc08ec8cc00018ec008fc, 0x7ec00011222000109ec1a1c09fc64c0001009fc64c0001009fc64c000109fc0112220064c010010019ec, 0xa6c1111100110010a5c11111a3c0010001001a2c1011010a4c1111101110010a3c11111, 0xa5c1011222110100a6c100000000101a8c000011222000010a7c11111100110010a6c1, 0x10abc111110110a9c1060aac1101111222110011222010010a9c111110111001a5c, 0xaac11a9c11aec00001acc0011a9c0000010aac00100a9c100000000101acc000011222abc, 0x101122200011110111010010afc1111111a3c110010001001a2c1011010a3c11000aac, 0x100a2c011122200011111101100b0c100100a2c010010010b0c1111101101101110a3c, 0x11222000000b2c111101101101110010010010b1c11111b0c00100a2cb0c00100a2cb0c0a2c, 0xb9c17ecb8c07fc50c00017fc07ec1111111011111a3c11111b1c1b4cb6c0b3cb2c0001b3c00b4c0b3cb2c0001b3c0b2cb3c, 0x100112220100100107dc1bcc0bacb9c000100bacb9c000100bacb9c000100bacb9c00010bac011222b9c, 0xc0c0bec4fc000100bec4fc000100bec4fc00010bec011222004fc0010050c1010010bdc1111100107dc1, 0x10010010c9c111110001007dc1c7cc2cc7c01c2cc7cc2cc4c4ecc4c014ecc4c4ec00bdc50c0000c1c010050c100010bdc1, 0xc9c1cdc0cbcc6c000100cbcc6c000100cbcc6c00010cbc01122200c6c00cacc8c000101cac0112220c8c00c9c1, 0x10001100010c9c1d0c0cec6ec000100cec6ec000100cec6ec00010cec011222006ec020072c00001c9c, 0x1001002ec010d5c11111010d4c10d2cc5c0001000112220d2c0cc331d2c0112220c5c010d1c11111, 0x200d6c1001002ec010d6c11111011122201122201122201122201411101122200d5c, 0x112220d9c0cc331d9c0112220d7c010d8c111111112220111222011222011222d6c1122, 0x2200ddc1001000101dec11122211110ddc111110110010dcc11111010dbc10d9cd7c00010d9c, 0x10dfc111110101110111011111111111101122200001000dcc1011222111ddc112, 0x101e2c000011222000010e1c111110110dfc1060e0c1101111222110011222010dfc, 0xd7c0001d9c000dac11000000000e0c11dfc11e4c00001e2c0011dfc0000010e0c00100dfc100000e2c, 0x200e7c100100c3c010e7c11111010d4c10d2cc5c0001d2c000d3c1000d5c11001002ecd6c0dac100dbce6c0d9c, 0xebc0eace9c0001eac00ebc0eace9c0001eac0e9ceac011222000000e9c11001001e8c00100c3ce7c111122, 0x1eac00ebc0eace9c0001eac00ebc0eace9c0001eac00ebc0eace9c0001eac00ebc0eace9c0001eac00ebc0eace9c0001eac, 0xebc0eace9c0001eac00ebc0eace9c0001eac00ebc0eace9c0001eac00ebc0eace9c0001eac00ebc0eace9c0001eac00ebc0eace9c, 0x1eac00ebc0eace9c0001eac00ebc0eace9c0001eac00ebc0eace9c0001eac00ebc0eace9c0001eac00ebc0eace9c0001eacebc, 0x10010010010f0c1111100000d3c100d4cefc0d2cc5c0001d2c000d3c11ebcedc0eace9c0001eac00ebc0eace9ceac, 0x10f5c11111c9c0001122200010f0c1f3c0f1c64c000100f1c64c000100f1c64c00010f1c0112220064c, 0x110010010f8c1111100110010f7c11111f5c0010001001f4c1011010f6c111110111f5c, 0x101110010f7c1011222110100f8c100000000101fac000011222000010f9c111111f8c, 0x11222000010fdc111110110fbc1060fcc1101111222110011222010010fbc1111, 0x10f5c11000000000fcc11fbc1100d00001fec0011fbc0000010fcc00100fbc100000000101fecfdc, 0x1101110f5c10112220001111011101001001d1111111f5c110010001001f4c1011f5c, 0x100f4c02d00100f4c01112220001111110110002d100100f4c01001001002d11111f5c11, 0x4d000105d004d05d01122200000004d11110110110111001001001003d1111102d00100f4c02d, 0x111222007dc11c9c0ad0cacc8c0001cac0c9c1111111011111f5c1111103d106d08d005d04d000105d0006d005d, 0x1000ddc6c000100dd01122200c6c000cdc8c0001010cd0112220c8c0001100100100bd1111107dc, 0x10d6ec00010010d6ec00010010d6ec0001010d011222006ec020072c0000100bd10fd00ddc6c0001000ddc6c00dd, 0x1016d1014dc5c000100011222014d0cc33114d0112220c5c01013d111110100011000100bd112d10d, 0x111101112220112220112220112220141110112220017d1001002ec01017d11111, 0x222019d0101ad1111111122201112220112220112220112220018d1001002ec01018d1, 0x111222111101fd1111101100101ed111110101dd101bd19d00010001122201bd0cc3311bd19d11, 0x110111111111111011222000010001ed1011222111011222001fd100100010120d, 0x1023d11111011021d106022d110111122211001122201001021d111110101111ed1, 0x22d1121d1126d0000124d001121d000001022d0010021d10000000010124d00001122223d, 0x111101016d1014dc5c000114d00015d100017d11001002ec18d01cd1001dd28d01bd19d00011bd0001cd1100022d, 0x2bd00012cd02bd2cd0112220000002bd110010012ad00100c3c011112220029d100100c3c01029d1, 0x2dd02cd2bd00012cd002dd02cd2bd00012cd002dd02cd2bd00012cd002dd02cd2bd00012cd002dd02cd2bd00012cd002dd02cd, 0x12cd002dd02cd2bd00012cd002dd02cd2bd00012cd002dd02cd2bd00012cd002dd02cd2bd00012cd002dd02cd2bd00012cd, 0x2dd02cd2bd00012cd002dd02cd2bd00012cd002dd02cd2bd00012cd002dd02cd2bd00012cd002dd02cd2bd00012cd002dd02cd2bd, 0x110000015d10016d31d014dc5c000114d00015d112dd2fd02cd2bd00012cd002dd02cd2bd00012cd002dd02cd2bd00012cd2dd, 0x220001032d135d033d64c00010033d64c00010033d64c0001033d0112220064c01001001001032d111, 0x11001039d1111137d001000100136d101101038d111110111001037d111110bd0032d112, 0x21101003ad1000000001013cd0000112220000103bd111111001100100103ad11111, 0x111101103dd10603ed11011112221100112220100103dd111110111001039d13ad1122, 0x13dd1142d0000140d00113dd00000103ed001003dd10000000010140d0000112220000103fd1, 0x1111011101001043d111111137d11001000100136d101101037d110000000003ed1, 0x12220001111110110044d10010036d01001001044d111110110110111037d143d11222, 0x46d11110110110111001001001045d1111144d0010036d44d0010036d44d0010036d44d11, 0xc8c00010cd00bd111111101111137d1111145d148d4ad047d46d000147d0048d047d46d000147d046d47d01122246d, 0x1111131111111111110104dd1111118c11b01111011101110cc0018c10112227dc0bd4cd00cd, 0x1111111110111051d111118c131111111111114dd1111111111111111111111111, 0x54d311111111111151d0054d10000011000100011222052d0cc33152d111111222113111, 0x53d11411111111111111211154d311111111111151d14111111111111112111, 0x1111111151d1111111111111111211154d311111111111151d0054d10000011000152d, 0x11111111111151d0054d10000011000152d00053d11111111111111111211154d31111, 0x53d11511111111111111211154d311111111111151d1511111111111111211154d3, 0x222056d060d53d0001060d011222053d0000005fd000001053d00105dd110054d5cd00011000152d053d, 0x18c62d060d53d000160d0005dd111122205ad060d53d000160d0005dd1111222058d060d53d000160d0005dd1111, 0x10065dc6c0001065d01122200c6c0064dc8c00010164d0112220c8c00011001001063d11111, 0x6ad068d59d00010068d59d00010068d59d0001068d0112220059d02005dd00001063d167d065dc6c00010065dc6c, 0x110106ed106cdc5c00010001122206cd0cc3316cd0112220c5c0106bd1111101000110001063d1, 0x70d111110111222011222011222011222014111011222006fd1001002ec0106fd111, 0x11222071d01072d1111111122201112220112220112220112220070d1001002ec0170d, 0x178d1112221111077d11111011001076d1111101075d1073d71d000100011222073d0cc33173d71d, 0x11101111111111110112220000100076d10112221110112220077d1001000178d, 0x20000107bd11111011079d10607ad110111122211001122201001079d111110176d111, 0x7ad1179d117ed000017cd001179d00000107ad0010079d1000000001017cd0007bd1122, 0x81d111110106ed106cdc5c00016cd0006dd10006fd11001002ec70d074d10075d80d073d71d000173d00074d1107ad, 0x84d83d000184d083d84d01122200000083d1100100182d00100c3c011112220081d100100c3c0181d, 0x184d0085d084d83d000184d0085d084d83d000184d0085d084d83d000184d0085d084d83d000184d0085d084d83d000184d0085d, 0x84d83d000184d0085d084d83d000184d0085d084d83d000184d0085d084d83d000184d0085d084d83d000184d0085d084d83d0084d, 0x84d0085d084d83d000184d0085d084d83d000184d0085d084d83d000184d0085d084d83d000184d0085d084d83d000184d0085d84d, 0x1111000006dd1006ed89d06cdc5c00016cd0006dd1185d87d084d83d000184d0085d084d83d000184d0085d084d83d0084d1, 0x1222000108ad18dd08bd4fd0001008bd4fd0001008bd4fd000108bd011222004fd0100100100108ad1, 0x110011001091d111118fd00100010018ed101101090d11111011100108fd1111163d008ad1, 0x22211010092d10000000010194d00001122200001093d1111110011001001092d111, 0x97d11111011095d106096d110111122211001122201001095d111110111001091d192d11, 0x96d1195d119ad0000198d001195d000001096d0010095d10000000010198d0000112220000197d, 0x22000111101110100109bd11111118fd1100100010018ed10110108fd110000000096d, 0x111222000111111011009cd1001008ed0100100109cd11111011011011108fd19bd112, 0x20000009ed1111011011011100100100109dd111119cd001008ed9cd001008ed9cd001008ed9cd, 0x64dc8c000164d063d11111110111118fd111119dd1a0da2d09fd9ed00019fd00a0d09fd9ed00019fd09ed9fd9ed1122, 0x11110cca6d111b100111011110cc010a6d11111b01111011101110cc010010a5d1111163da4d, 0x112220a8da7d0001a8d000a9d0a8da7d0001a8da9da8d0112220a7d11b100111011110cca6d1b1001110cc, 0x10010010acd1111118c100100c6c00100c8c018c1112220000a5d100a9dabd0a8da7d0001a8d000a9d, 0x1111111111010add11111511111111111111000111211103111111111111acd1, 0x1111111010aed111110110acd115111111111111add55511111111111111111511, 0xb1d11111010acd3111111111111aed111111111111111111111111111111311111, 0x22200b5d1001002ec010b5d11111010b4d10b2dc5c0001000112220b2d0cc331b2d0112220c5c01b1d, 0x201122200b6d1001002ec010b6d111110111222011222011222011222014111b5d11, 0x1000112220b9d0cc331b9d0112220b7d010b8d111111112220111222011222b6d1122, 0x1101122200bdd1001000101bed11122211110bdd111110110010bcd11111010bbd10b9db7d, 0x22010010bfd111110101110111011111111111101122200001000bcd1bdd112221, 0x101c2d000011222000010c1d111110110bfd1060c0d1101111222110bfd112, 0xbbdc6d0b9db7d0001b9d000bad11000000000c0d11bfd11c4d00001c2d0011bfd0000010c0d00100bfd1, 0x111122200c7d100100c3c010c7d11111010b4d10b2dc5c0001b2d000b3d1000b5d11001002ecb6d0bad1, 0xc9d0001cad00cbd0cadc9d0001cad00cbd0cadc9d0001cad0c9dcad011222000000c9d11001001c8d00100c3cc7d, 0xcbd0cadc9d0001cad00cbd0cadc9d0001cad00cbd0cadc9d0001cad00cbd0cadc9d0001cad00cbd0cadc9d0001cad00cbd0cad, 0x1cad00cbd0cadc9d0001cad00cbd0cadc9d0001cad00cbd0cadc9d0001cad00cbd0cadc9d0001cad00cbd0cadc9d0001cad, 0xcbd0cadc9d0001cad00cbd0cadc9d0001cad00cbd0cadc9d0001cad00cbd0cadc9d0001cad00cbd0cadc9d0001cad00cbd0cadc9d, 0x22200b0d010010010010d0d1111100000b3d100b4dcfd0b2dc5c0001b2d000b3d11cbdcdd0cadc9d0001cadcbd, 0x11111111110010acd10001122200010d0d1d3d0d1db0d000100d1db0d000100d1db0d00010d1db0d11, 0x1001d4d1011010d6d111110110010010d5d1111111211103111111111111acd511, 0x11222000010d9d11111100110010010d8d1111100110010d7d111110010d5d1001d4d, 0x110011222010010dbd1111101110010d7d1011222110100d8d100000000101dad00d9d, 0x100dbd100000000101ded000011222000010ddd111110110dbd1060dcd11dbd1111222, 0x1d5d110010001001d4d1011010d5d11000000000dcd11dbd11e0d00001ded0011dbd0000010dcd, 0xd4d010010010e2d11111011011010010d5d101122200011110111010010e1d111111, 0x10010e3d11111e2d00100d4de2d00100d4de2d00100d4d011122200011111101100e2d10010d4d, 0xd5d1e3d1e6de8d0e5de4d0001e5d00e6d0e5de4d0001e5d0e4de5d011222000000e4d111101101101110010e3d, 0x111100001100100100100103ee111110110110051111111111111100acd100ca1d5d, 0x111140e001001001001001041e111111110140e11111111111111111111111111, 0x1140e041e003fe11011101010111140e041e003fe11011101010111140e041e003fe1101110140e1, 0x45e1043ec5c000100011222043e0cc33143e0112220c5c01042e1111141e1003fe110111010140e11, 0x11101045e1043ec5c000143e00044e145e112221122211222111111001002ec01046e1111145e1, 0x1140e41e114ae44e8114ae0822244e4ae44e0045e49e043ec5c000143e112221122211111100100c3c01047e11, 0x4ee104cec5c00010001122204ce0cc3314ce0112220c5c0104be1111141e1003fe110111010140e11, 0x1051e111110104ee104cec5c00014ce0004de14ee1122211222001050e001002ec0104fe111114ee1, 0x11140e41e1155e4de81155e082224de55e4de004ee54e04cec5c00014ce0004de14ee1122211222001052e00100c3c, 0x1110111140e066661122266166051111111111110003ee1003fe110111010140e1, 0x111113111111111111acd3fe1001110111140e00acd10555111111111111111103ee3fe1, 0x11111111110811111111111101001056e111113fe1001110111140eacd8111111111, 0x111111111111111113111111111111acd112221001002ec00100c5cacd8881111111, 0x77703111111111111acd111001057e111113fe1001110111140e0acd11111111111111, 0x111111acd005ae5ce059e58e000159e5ae11222059e58e000159e0005ae059e58e000159e5ae59e011222058e11172, 0x111011110cc0100105de111111118c11b01111011101110cc0018c107577acd3111111, 0x18c1112220011ac118c1160e03cc3bc00013cc0001ac1018c0001ac18cbbb1101110101011110cc15deb1, 0x11000100011222063e0cc33163e11111122211311111111111162e111061e1062e1111, 0x10000011000163e00064e11411111111111111211165e311111111111162e0065e10063e, 0x62e0065e10000011000163e00064e11111111111111111211165e311111111111162e0065e, 0x106be110065e6ae00011000163e00064e11511111111111111211165e3111111111111, 0x11222067e06ee64e00016ee0006be1111222066e06ee64e000106ee011222064e0000006de000001064e, 0x111111111100011071e1111162e170e06ee64e00016ee0006be1111222068e06ee64e00016ee0006be11, 0x11110001112111031111111111110071e1000001100010173e11111122211311, 0x111031111111111110071e10000011000173e00001111222001072e071e411111111, 0x11111111111110111074e11111111111111111111011111111111110071e1112, 0x1072e071e1122200177e178e7ae00011000100011222076e0cc33176e110011222075e1111111, 0x111111110001112111031111111111110071e10000011000173e0000111122272e, 0x1122207ce66166665111111111111011107be1111151111111111111171e51111, 0x6600017de0007ee13fe1001110111140e007fe10000006600010001122207de0cc3317de667ce, 0x71e83e00011000173e00001111222001072e00511111111111171e112220017ee1007fe81e07de, 0x111311111111111162e01001061e187e085e84e00010085e84e00010085e84e0001085e0112220084e, 0x11111111111111101089e1111111111111111111101088e11111111111111111, 0x8be8ae00018be8ce1122208be8ae00018be0008ce08be8ae00018be8ce8be01122208ae11111111111111188e1, 0x1111111103111111111111011111311111111111111111111111162e1008ce8ee8be, 0x11111311111111111111111111111101090e1111162e11111111111111131111, 0x1111094e1111011001001001001001001001092e1111161e1411311111111111162e, 0x72e94e097e1001000195e00096e172e397e00072e94e097e1001000100011222095e0cc33195e11122211, 0x109ae011222096e10097e99e001000195e00096e172e397e00072e94e097e1001000195e00096e172e397e072e, 0x9de111222111001100100100100109be11111000092e1109ae96e0001009ae96e0001009ae96e9ae, 0x72e009be100100019de009be172e39be00072e009be100100019de009be172e39be00072e009be100100019de1, 0x109ce09be1110100100100109ee111110001000101122200112220009be172e39be0072e, 0xa1e0009ce00a1e1001000101a2e11122211100110a1e111119bea0e00100019de0009ce1111222, 0x1a2e00100000a1e19ce3a1e0009ce00a1e10010001a2e00a1e19ce3a1e0009ce00a1e10010001a2e00a1e19ce3, 0xa6e1111111111111111111119111111111111311111111111162e061e1a1ea5e00100a2e, 0xa9e11122211100110a8e111110110010010a7e111110001061e1111111111111101a6e, 0x6be00a8e10010001a9e00a8e16be3a8e0006be00a8e10010001a9e00a8e16be3a8e0006be00a8e10010001a9e1, 0x2221111110aee111101061e100100a3ea7e00100a3e00000a7e1a8eabe0010001a9e00a8e16be3a8e006be, 0x72e3b1e00072eaee0b1e10010001afe000b0e172e3b1e00072eaee0b1e10010001000112220afe0cc331afe111, 0xb4eb0e00010b4e0112220b0e100b1eb3e0010001afe000b0e172e3b1e00072eaee0b1e10010001afe000b0e1, 0x12220b5e0cc331b5e01122201ac222118c333111111111111111162e61e0b4eb0e000100b4eb0e00b4e1, 0xb5e000b6e100010b7e1bae0b8e5ee000100b8e5ee000100b8e5ee00010b8e011222005ee00b5e1ac000100b5e1, 0x1ac0001000112220bee0cc331bee01122201ac211bdeb6e811bde08222b6ebdeb6e200000b7ebce0b5e1ac00b5e1, 0xbee1122211222110110010c0e1c3e0c1e5ee000100c1e5ee000100c1e5ee00010c1e011222005ee00bee, 0x11101110c7e11111511111111111111211c6ebfe811c6e08222bfec6ebfe00000c0ec5e0bee1ac00bee1, 0x40e00cbe1000000660001000112220c9e0cc331c9e6600112220c8e66166665111111111, 0x111111111111211222211222001cae100cbecde000660001c9e000cae13fe10011140e1111, 0x1000ec00d1e10cfe0dc0001000112220cfe0cc331cfe01122200dc211ceeace911cee09222aceceeace11123, 0x11111111200d1e221d3e0cfe0dc0001cfe11222001000fc00d1e10cfe0dc0001cfe000d0e1d1e1122200ec, 0x11111111113111111111111211d0e21c811d0e0822221cd0e21c21911111111111131111, 0x1111111100d4e100a000101d5ea11222aa9111111111111010010d4e1111191111, 0x2111b100111011110cc011222d4eb100111011110cc00d4e100a0001d5e11222d4e11111, 0x100d9e5ee000100d9e5ee00010d9e011222005ee00d6e1ac0001000112220d6e0cc331d6e01122201ac, 0xdfe0deed7e0001deedfedee0112220d7e100000d8edde0d6e1ac0001d6e000d7e1110110010d8e1dbe0d9e5ee0d9e, 0x11222e1e0deed7e0001dee]) .nil
theorem cs_X12hb1 (w : World) (N t t1 ua u0_0 u0_2 u0_4 u0_5 u0_6 u0_8 u0_10 u0_12 u0_14 u0_16 u3_3 u5_5 u6_9 u9_7 u9_9 u12_1 u12_3 u13_1 u13_3 ub0 : Nat) (v0_0 v0_5 v0_6 v0_7 v0_8 v3_5 v3_7 v3_8 v3_9 v3_11 v3_12 v3_13 v3_14 v5_1 : Value) (nw : Nat → Obj) (uu : Nat) (p : Pos) : okR (r_p12hb1 w N t t1 ua u0_0 u0_2 u0_4 u0_5 u0_6 u0_8 u0_10 u0_12 u0_14 u0_16 u3_3 u5_5 u6_9 u9_7 u9_9 u12_1 u12_3 u13_1 u13_3 ub0 v0_0 v0_5 v0_6 v0_7 v0_8 v3_5 v3_7 v3_8 v3_9 v3_11 v3_12 v3_13 v3_14 v5_1 nw uu p) := by kernel_rfl
theorem p12hb1 {w : World} {s : Shared} {p : Pos} {N t t1 ua u0_0 u0_2 u0_4 u0_5 u0_6 u0_8 u0_10 u0_12 u0_14 u0_16 u3_3 u5_5 u6_9 u9_7 u9_9 u12_1 u12_3 u13_1 u13_3 ub0 : Nat} {v0_0 v0_5 v0_6 v0_7 v0_8 v3_5 v3_7 v3_8 v3_9 v3_11 v3_12 v3_13 v3_14 v5_1 : Value} {nw : Nat → Obj} {uu : Nat} (hN : s.heap.objs.size = (N + 1090)) (ht : s.toks = t + 1837) (hg : s.gens = #[]) (hk : AKT s.heap (kt2 w.params uu)) (h0 : Hs s 1095 (loc9 w.params (tk u0_0) v0_0 (tk u0_2) (.ref 1107) (tk u0_4) (iv 100 (tk u0_5)) (tk u0_6) (.ref 1203) (tk u0_8) (.ref 1356) (tk u0_10) v0_5 (tk u0_12) v0_6 (tk u0_14) v0_7 (tk u0_16) v0_8)) (h1 : Hs s 1106 (sh1106 w.params uu (.ref 1306))) (h2 : Hs s 1186 (sh1186 w.params uu (.bool true))) (h3 : Hs s 1202 (sh1202 w.params uu (iv 0 (tk u3_3)) v3_5 v3_7 v3_8 v3_9 v3_11 v3_12 v3_13 v3_14)) (h4 : Hs s 1205 ⟨(.type "dict"), none, (.dict #[] 0), #[]⟩) (h5 : Hs s 1260 (sh1260 w.params uu v5_1 (iv 0 (tk u5_5)))) (h6 : Hs s 1273 (sh1273 w.params uu (iv 0 (tk u6_9)))) (h7 : Hs s 1287 (sh1287 w.params uu (.ref 1378))) (h8 : Hs s 1294 (ls #[(.ref 1291), (.ref 1350)] 1)) (h9 : Hs s 1349 (sh1349 w.params ua (iv 100 (tk u9_7)) (iv 0 (tk u9_9)))) (h10 : Hs s 1350 ⟨(.ref 700), (some 1349), .plain, #[]⟩) (h11 : Hs s 1356 (ls #[(.ref 1366), (.ref 1375)] 2)) (h12 : Hs s 1366 ⟨(.type "tuple"), none, (.seq #[(sv "home" (tk u12_1)), (.bytes #[0, 0, 0, 0, 0, 0, 0, 0] (tk u12_3))] 0), #[]⟩) (h13 : Hs s 1375 ⟨(.type "tuple"), none, (.seq #[(sv "away" (tk u13_1)), (.bytes #[1, 1, 1, 1, 1, 1, 1, 1] (tk u13_3))] 0), #[]⟩) (h14 : Hs s 1378 (ls #[(.ref 1366), (.ref 1375)] 1)) (hs : segOK t [(1263, t1)]) {q0 : List (Addr × Obj)} {w0 : Nat → List Obj} (c0 : CallOK [(.func (fdBody (stm 97)) ⟨fdScope (stm 97), ((N + 1090) + 452), 3, [], (Str.ofString "put_packet.<locals>."), (some 375), (.ref 374), (some ((N + 1090) + 452)), 0⟩), (.func (fdBody (stm 110)) ⟨fdScope (stm 110), ((N + 1090) + 411), 3, [], (Str.ofString "sealed.<locals>."), (some 435), (.ref 434), (some ((N + 1090) + 411)), 0⟩), (.forLoop (forT (nthS 5 (fdBody (stm 113)))) (.ref ((N + 1090) + 43)) (forB (nthS 5 (fdBody (stm 113)))) (forO (nthS 5 (fdBody (stm 113)))) ⟨fdScope (stm 113), ((N + 1090) + 7), 3, [((Str.ofString "active"), ((N + 1090) + 8))], (Str.ofString "other_answers.<locals>."), (some 452), (.ref 451), (some ((N + 1090) + 7)), 0⟩), (.func (fdBody (stm 113)) ⟨fdScope (stm 113), ((N + 1090) + 7), 3, [((Str.ofString "active"), ((N + 1090) + 8))], (Str.ofString "other_answers.<locals>."), (some 452), (.ref 451), (some ((N + 1090) + 7)), 0⟩), lawCode] w (kt2 w.params uu) (.call (.ref 347) ⟨[(.bytes #[107] (tk (uu + 437))), (iv 0 (tk (t + 1060))), (.bytes #[64, 112, 101, 101, 114] (tk (t + 1262))), (.bytes #[0] (tk (t + 1213))), (.bytes #[27, 1, 1, 1, 1, 1, 1, 1, 1, 0, 0, 0, 0, 0, 0, 0, 0, 0, 0, 0, 0, 0, 0, 0, 0, 0, 0, 0] (tk (t + 1143)))], []⟩) (tk (t + 1263)) (tk t1) [] q0 (.bytes #[72, 112, 101, 101, 114, 130, 208, 15, 21, 98, 154, 165, 25, 229, 144, 29, 126, 212, 8, 5, 98, 32, 155, 0, 105, 14, 57, 120, 182, 245, 228, 67, 13, 93, 26, 39, 212, 217, 13, 124, 58, 79, 122, 24, 95, 202, 167, 171, 44, 223] (tk ub0)) [] w0) (e0 : w0 ((N + 1090) + 472) = (gl 85 0 nw)) (g0 : ∀ x ∈ q0, s.heap.get? x.1 = some x.2 ∧ x.1 ∉ [1095, 1106, 1186, 1202, 1205, 1260, 1273, 1287, 1294, 1349, 1350, 1356, 1366, 1375, 1378]) :
  wp (model PP w) Γf (execs (lawSl 12 7) lawEnv) (fun g _ s' => g = .next ∧ After s s' [1095, 1106, 1186, 1202, 1205, 1260, 1273, 1287, 1294, 1349, 1350, 1356, 1366, 1375, 1378] (N + 1090) 721 (tk (t1 + 300)) ∧ Hs s' 1095 (loc12 w.params (tk u0_0) v0_0 (tk u0_2) (.ref 1107) (tk u0_4) (iv 100 (tk u0_5)) (tk u0_6) (.ref 1203) (tk u0_8) (.ref 1356) (tk u0_10) v0_5 (tk u0_12) v0_6 (tk u0_14) v0_7 (tk u0_16) v0_8 (tk (t + 5)) (.bool true) (tk (t1 + 247)) (.ref ((N + 1090) + 9)) (tk (t1 + 281)) (.ref ((N + 1090) + 703))) ∧ Hs s' 1106 (sh1106 w.params uu (.ref ((N + 1090) + 667))) ∧ Hs s' 1186 (sh1186 w.params uu (.bool true)) ∧ Hs s' 1202 (sh1202 w.params uu (iv 1 (tk (t + 1055))) (iv 2000 (tk (t + 6))) v3_7 v3_8 v3_9 v3_11 v3_12 v3_13 v3_14) ∧ Hs s' 1205 ⟨(.type "dict"), none, (.dict #[⟨(Int.ofNat 0), (iv 0 (tk (t + 1060))), (.ref ((N + 1090) + 559))⟩] 1), #[]⟩ ∧ Hs s' 1260 (sh1260 w.params uu v5_1 (iv 0 (tk (t1 + 67)))) ∧ Hs s' 1273 (sh1273 w.params uu (iv 50 (tk (t1 + 56)))) ∧ Hs s' 1287 (sh1287 w.params uu (.ref ((N + 1090) + 16))) ∧ Hs s' 1294 (ls #[(.ref 1291), (.ref 1350)] 1) ∧ Hs s' 1349 (sh1349 w.params ua (iv 100 (tk u9_7)) (iv 50 (tk (t1 + 80)))) ∧ Hs s' 1350 ⟨(.ref 700), (some 1349), .plain, #[]⟩ ∧ Hs s' 1356 (ls #[(.ref 1366), (.ref 1375)] 2) ∧ Hs s' 1366 ⟨(.type "tuple"), none, (.seq #[(sv "home" (tk u12_1)), (.bytes #[0, 0, 0, 0, 0, 0, 0, 0] (tk u12_3))] 0), #[]⟩ ∧ Hs s' 1375 ⟨(.type "tuple"), none, (.seq #[(sv "away" (tk u13_1)), (.bytes #[1, 1, 1, 1, 1, 1, 1, 1] (tk u13_3))] 0), #[]⟩ ∧ Hs s' 1378 (ls #[(.ref 1366), (.ref 1375)] 1) ∧ Hs s' ((N + 1090) + 703) (ls #[(.ref 1366)] 1) ∧ Hs s' ((N + 1090) + 16) (ls #[(.ref 1366)] 1)) (fun _ _ _ => False) p s := by
  have hkb := kb_of w.params uu (l := [1095, 1106, 1186, 1202, 1205, 1260, 1273, 1287, 1294, 1349, 1350, 1356, 1366, 1375, 1378]) (by decide)
  exact Sem.wp_mono _ _ _ (fun g _ s' h => ⟨h.1, h.2.1, h.2.2 _ m0, h.2.2 _ m1, h.2.2 _ m2, h.2.2 _ m3, h.2.2 _ m4, h.2.2 _ m5, h.2.2 _ m6, h.2.2 _ m7, h.2.2 _ m8, h.2.2 _ m9, h.2.2 _ m10, h.2.2 _ m11, h.2.2 _ m12, h.2.2 _ m13, h.2.2 _ m14, h.2.2 _ m15, h.2.2 _ m16⟩) (fun _ _ _ h => h) _ _ (tri (cs_X12hb1 w N t t1 ua u0_0 u0_2 u0_4 u0_5 u0_6 u0_8 u0_10 u0_12 u0_14 u0_16 u3_3 u5_5 u6_9 u9_7 u9_9 u12_1 u12_3 u13_1 u13_3 ub0 v0_0 v0_5 v0_6 v0_7 v0_8 v3_5 v3_7 v3_8 v3_9 v3_11 v3_12 v3_13 v3_14 v5_1 nw uu p) (by kernel_rfl) hkb (by decide) hN ht hg hk (mc h0 <| mc h1 <| mc h2 <| mc h3 <| mc h4 <| mc h5 <| mc h6 <| mc h7 <| mc h8 <| mc h9 <| mc h10 <| mc h11 <| mc h12 <| mc h13 <| mc h14 <| mn) hs (fa_cons (fun RX => spOK_of rfl rfl (sp_base hkb hk) rfl rfl c0 e0 rfl rfl rfl rfl (sp_keep g0)) <| fa_nil))

end
end Mine
end
section
set_option maxRecDepth 100000
set_option linter.unusedVariables false
open PySem PySem.W PySem.Calls PyProof.Rows
open PySem.Sem (wp)
namespace Mine
noncomputable section
def r_p19w2 (w : World) (N t t1 u0_0 u0_2 u0_4 u0_6 u0_8 u0_10 u0_12 u0_14 u0_16 u0_18 u0_20 u0_22 : Nat) (v0_0 v0_2 v0_3 v0_4 v0_5 v0_6 v0_7 v0_9 v0_10 v0_11 : Value) (n0_0 n0_1 : Obj) (uu : Nat) (p : Pos) : St :=
  runE (VL w (kt2 w.params uu) [1095] (N + 1090) t [(0, t1)] [⟨some [lawCode], (.call (.ref 459) ⟨[(.ref 1107)], []⟩), 0, 0, 1, [], (.bool false), [], [n0_0, n0_1]⟩] belL) 17 [(0, (loc12 w.params (tk u0_0) v0_0 (tk u0_2) (.ref 1107) (tk u0_4) v0_2 (tk u0_6) v0_3 (tk u0_8) v0_4 (tk u0_10) v0_5 (tk u0_12) v0_6 (tk u0_14) v0_7 (tk u0_16) (.bool true) (tk u0_18) v0_9 (tk u0_20) v0_10 (tk u0_22) v0_11))] (.ret (.bool true)) 2 1 lawCode p [] (tree 19 1) (mkT [(loc12 w.params (tk u0_0) v0_0 (tk u0_2) (.ref 1107) (tk u0_4) v0_2 (tk u0_6) v0_3 (tk u0_8) v0_4 (tk u0_10) v0_5 (tk u0_12) v0_6 (tk u0_14) v0_7 (tk u0_16) (.bool true) (tk u0_18) v0_9 (tk u0_20) v0_10 (tk u0_22) v0_11)] 0 .nil) 0 0 0 (dec [0x11222200ca121]) .nil
def r_p19w4 (w : World) (N t t1 u0_0 u0_2 u0_4 u0_6 u0_8 u0_10 u0_12 u0_14 u0_16 u0_18 u0_20 u0_22 : Nat) (v0_0 v0_2 v0_3 v0_4 v0_5 v0_6 v0_7 v0_9 v0_10 v0_11 : Value) (n0_0 n0_1 n0_2 n0_3 : Obj) (uu : Nat) (p : Pos) : St :=
  runE (VL w (kt2 w.params uu) [1095] (N + 1090) t [(0, t1)] [⟨some [lawCode], (.call (.ref 459) ⟨[(.ref 1107)], []⟩), 0, 0, 1, [], (.bool false), [], [n0_0, n0_1, n0_2, n0_3]⟩] belL) 17 [(0, (loc12 w.params (tk u0_0) v0_0 (tk u0_2) (.ref 1107) (tk u0_4) v0_2 (tk u0_6) v0_3 (tk u0_8) v0_4 (tk u0_10) v0_5 (tk u0_12) v0_6 (tk u0_14) v0_7 (tk u0_16) (.bool true) (tk u0_18) v0_9 (tk u0_20) v0_10 (tk u0_22) v0_11))] (.ret (.bool true)) 4 1 lawCode p [] (tree 19 1) (mkT [(loc12 w.params (tk u0_0) v0_0 (tk u0_2) (.ref 1107) (tk u0_4) v0_2 (tk u0_6) v0_3 (tk u0_8) v0_4 (tk u0_10) v0_5 (tk u0_12) v0_6 (tk u0_14) v0_7 (tk u0_16) (.bool true) (tk u0_18) v0_9 (tk u0_20) v0_10 (tk u0_22) v0_11)] 0 .nil) 0 0 0 (dec [0x11222200ca121]) .nil
def r_p19w5 (w : World) (N t t1 u0_0 u0_2 u0_4 u0_6 u0_8 u0_10 u0_12 u0_14 u0_16 u0_18 u0_20 u0_22 : Nat) (v0_0 v0_2 v0_3 v0_4 v0_5 v0_6 v0_7 v0_9 v0_10 v0_11 : Value) (n0_0 n0_1 n0_2 n0_3 n0_4 : Obj) (uu : Nat) (p : Pos) : St :=
  runE (VL w (kt2 w.params uu) [1095] (N + 1090) t [(0, t1)] [⟨some [lawCode], (.call (.ref 459) ⟨[(.ref 1107)], []⟩), 0, 0, 1, [], (.bool false), [], [n0_0, n0_1, n0_2, n0_3, n0_4]⟩] belL) 17 [(0, (loc12 w.params (tk u0_0) v0_0 (tk u0_2) (.ref 1107) (tk u0_4) v0_2 (tk u0_6) v0_3 (tk u0_8) v0_4 (tk u0_10) v0_5 (tk u0_12) v0_6 (tk u0_14) v0_7 (tk u0_16) (.bool true) (tk u0_18) v0_9 (tk u0_20) v0_10 (tk u0_22) v0_11))] (.ret (.bool true)) 5 1 lawCode p [] (tree 19 1) (mkT [(loc12 w.params (tk u0_0) v0_0 (tk u0_2) (.ref 1107) (tk u0_4) v0_2 (tk u0_6) v0_3 (tk u0_8) v0_4 (tk u0_10) v0_5 (tk u0_12) v0_6 (tk u0_14) v0_7 (tk u0_16) (.bool true) (tk u0_18) v0_9 (tk u0_20) v0_10 (tk u0_22) v0_11)] 0 .nil) 0 0 0 (dec [0x11222200ca121]) .nil
def r_p19w7 (w : World) (N t t1 u0_0 u0_2 u0_4 u0_6 u0_8 u0_10 u0_12 u0_14 u0_16 u0_18 u0_20 u0_22 : Nat) (v0_0 v0_2 v0_3 v0_4 v0_5 v0_6 v0_7 v0_9 v0_10 v0_11 : Value) (n0_0 n0_1 n0_2 n0_3 n0_4 n0_5 n0_6 : Obj) (uu : Nat) (p : Pos) : St :=
  runE (VL w (kt2 w.params uu) [1095] (N + 1090) t [(0, t1)] [⟨some [lawCode], (.call (.ref 459) ⟨[(.ref 1107)], []⟩), 0, 0, 1, [], (.bool false), [], [n0_0, n0_1, n0_2, n0_3, n0_4, n0_5, n0_6]⟩] belL) 17 [(0, (loc12 w.params (tk u0_0) v0_0 (tk u0_2) (.ref 1107) (tk u0_4) v0_2 (tk u0_6) v0_3 (tk u0_8) v0_4 (tk u0_10) v0_5 (tk u0_12) v0_6 (tk u0_14) v0_7 (tk u0_16) (.bool true) (tk u0_18) v0_9 (tk u0_20) v0_10 (tk u0_22) v0_11))] (.ret (.bool true)) 7 1 lawCode p [] (tree 19 1) (mkT [(loc12 w.params (tk u0_0) v0_0 (tk u0_2) (.ref 1107) (tk u0_4) v0_2 (tk u0_6) v0_3 (tk u0_8) v0_4 (tk u0_10) v0_5 (tk u0_12) v0_6 (tk u0_14) v0_7 (tk u0_16) (.bool true) (tk u0_18) v0_9 (tk u0_20) v0_10 (tk u0_22) v0_11)] 0 .nil) 0 0 0 (dec [0x11222200ca121]) .nil
def r_p19n (w : World) (N t t1 a0 u0_0 u0_2 u0_4 u0_6 u0_8 u0_10 u0_12 u0_14 u0_16 u0_18 u0_20 u0_22 : Nat) (v0_0 v0_2 v0_3 v0_4 v0_5 v0_6 v0_7 v0_9 v0_10 : Value) (n0_0 n0_1 n0_2 n0_3 n0_4 n0_5 n0_6 n0_7 : Obj) (uu : Nat) (p : Pos) : St :=
  runE (VL w (kt2 w.params uu) [1095, (a0 + 1090)] (N + 1090) t [(0, t1)] [⟨some [lawCode], (.call (.ref 459) ⟨[(.ref 1107)], []⟩), 0, 0, 1, [], (.bool true), [], [n0_0, n0_1, n0_2, n0_3, n0_4, n0_5, n0_6, n0_7]⟩] belL) 39 [(0, (loc12 w.params (tk u0_0) v0_0 (tk u0_2) (.ref 1107) (tk u0_4) v0_2 (tk u0_6) v0_3 (tk u0_8) v0_4 (tk u0_10) v0_5 (tk u0_12) v0_6 (tk u0_14) v0_7 (tk u0_16) (.bool false) (tk u0_18) v0_9 (tk u0_20) v0_10 (tk u0_22) (.ref (a0 + 1090)))),
    (1, (ls #[] 0))] (.ret (.bool true)) 9 1 lawCode p [] (tree 19 1) (mkT [(loc12 w.params (tk u0_0) v0_0 (tk u0_2) (.ref 1107) (tk u0_4) v0_2 (tk u0_6) v0_3 (tk u0_8) v0_4 (tk u0_10) v0_5 (tk u0_12) v0_6 (tk u0_14) v0_7 (tk u0_16) (.bool false) (tk u0_18) v0_9 (tk u0_20) v0_10 (tk u0_22) (.ref (a0 + 1090))),
    (ls #[] 0)] 0 .nil) 0 0 0 (dec [0x11222030303031122230cc32200ca121]) .nil
def r_p19h (w : World) (N t t1 a0 u0_0 u0_2 u0_4 u0_6 u0_8 u0_10 u0_12 u0_14 u0_16 u0_18 u0_20 u0_22 : Nat) (v0_0 v0_2 v0_3 v0_4 v0_5 v0_6 v0_7 v0_9 v0_10 v1_0 : Value) (n0_0 n0_1 n0_2 n0_3 n0_4 n0_5 n0_6 : Obj) (uu : Nat) (p : Pos) : St :=
  runE (VL w (kt2 w.params uu) [1095, (a0 + 1090)] (N + 1090) t [(0, t1)] [⟨some [lawCode], (.call (.ref 459) ⟨[(.ref 1107)], []⟩), 0, 0, 1, [], (.bool false), [], [n0_0, n0_1, n0_2, n0_3, n0_4, n0_5, n0_6]⟩] belL) 35 [(0, (loc12 w.params (tk u0_0) v0_0 (tk u0_2) (.ref 1107) (tk u0_4) v0_2 (tk u0_6) v0_3 (tk u0_8) v0_4 (tk u0_10) v0_5 (tk u0_12) v0_6 (tk u0_14) v0_7 (tk u0_16) (.bool false) (tk u0_18) v0_9 (tk u0_20) v0_10 (tk u0_22) (.ref (a0 + 1090)))),
    (1, (ls #[v1_0] 1))] (.ret (.bool true)) 8 1 lawCode p [] (tree 19 1) (mkT [(loc12 w.params (tk u0_0) v0_0 (tk u0_2) (.ref 1107) (tk u0_4) v0_2 (tk u0_6) v0_3 (tk u0_8) v0_4 (tk u0_10) v0_5 (tk u0_12) v0_6 (tk u0_14) v0_7 (tk u0_16) (.bool false) (tk u0_18) v0_9 (tk u0_20) v0_10 (tk u0_22) (.ref (a0 + 1090))),
    (ls #[v1_0] 1)] 0 .nil) 0 0 0 (dec [0x11222b3b3112223b32200ca121]) .nil
theorem cs_R19 :
  (∀ (w : World) (N t t1 u0_0 u0_2 u0_4 u0_6 u0_8 u0_10 u0_12 u0_14 u0_16 u0_18 u0_20 u0_22 : Nat) (v0_0 v0_2 v0_3 v0_4 v0_5 v0_6 v0_7 v0_9 v0_10 v0_11 : Value) (n0_0 n0_1 : Obj) (uu : Nat) (p : Pos), okR (r_p19w2 w N t t1 u0_0 u0_2 u0_4 u0_6 u0_8 u0_10 u0_12 u0_14 u0_16 u0_18 u0_20 u0_22 v0_0 v0_2 v0_3 v0_4 v0_5 v0_6 v0_7 v0_9 v0_10 v0_11 n0_0 n0_1 uu p)) ∧
  (∀ (w : World) (N t t1 u0_0 u0_2 u0_4 u0_6 u0_8 u0_10 u0_12 u0_14 u0_16 u0_18 u0_20 u0_22 : Nat) (v0_0 v0_2 v0_3 v0_4 v0_5 v0_6 v0_7 v0_9 v0_10 v0_11 : Value) (n0_0 n0_1 n0_2 n0_3 : Obj) (uu : Nat) (p : Pos), okR (r_p19w4 w N t t1 u0_0 u0_2 u0_4 u0_6 u0_8 u0_10 u0_12 u0_14 u0_16 u0_18 u0_20 u0_22 v0_0 v0_2 v0_3 v0_4 v0_5 v0_6 v0_7 v0_9 v0_10 v0_11 n0_0 n0_1 n0_2 n0_3 uu p)) ∧
  (∀ (w : World) (N t t1 u0_0 u0_2 u0_4 u0_6 u0_8 u0_10 u0_12 u0_14 u0_16 u0_18 u0_20 u0_22 : Nat) (v0_0 v0_2 v0_3 v0_4 v0_5 v0_6 v0_7 v0_9 v0_10 v0_11 : Value) (n0_0 n0_1 n0_2 n0_3 n0_4 : Obj) (uu : Nat) (p : Pos), okR (r_p19w5 w N t t1 u0_0 u0_2 u0_4 u0_6 u0_8 u0_10 u0_12 u0_14 u0_16 u0_18 u0_20 u0_22 v0_0 v0_2 v0_3 v0_4 v0_5 v0_6 v0_7 v0_9 v0_10 v0_11 n0_0 n0_1 n0_2 n0_3 n0_4 uu p)) ∧
  (∀ (w : World) (N t t1 u0_0 u0_2 u0_4 u0_6 u0_8 u0_10 u0_12 u0_14 u0_16 u0_18 u0_20 u0_22 : Nat) (v0_0 v0_2 v0_3 v0_4 v0_5 v0_6 v0_7 v0_9 v0_10 v0_11 : Value) (n0_0 n0_1 n0_2 n0_3 n0_4 n0_5 n0_6 : Obj) (uu : Nat) (p : Pos), okR (r_p19w7 w N t t1 u0_0 u0_2 u0_4 u0_6 u0_8 u0_10 u0_12 u0_14 u0_16 u0_18 u0_20 u0_22 v0_0 v0_2 v0_3 v0_4 v0_5 v0_6 v0_7 v0_9 v0_10 v0_11 n0_0 n0_1 n0_2 n0_3 n0_4 n0_5 n0_6 uu p)) ∧
  (∀ (w : World) (N t t1 a0 u0_0 u0_2 u0_4 u0_6 u0_8 u0_10 u0_12 u0_14 u0_16 u0_18 u0_20 u0_22 : Nat) (v0_0 v0_2 v0_3 v0_4 v0_5 v0_6 v0_7 v0_9 v0_10 : Value) (n0_0 n0_1 n0_2 n0_3 n0_4 n0_5 n0_6 n0_7 : Obj) (uu : Nat) (p : Pos), okR (r_p19n w N t t1 a0 u0_0 u0_2 u0_4 u0_6 u0_8 u0_10 u0_12 u0_14 u0_16 u0_18 u0_20 u0_22 v0_0 v0_2 v0_3 v0_4 v0_5 v0_6 v0_7 v0_9 v0_10 n0_0 n0_1 n0_2 n0_3 n0_4 n0_5 n0_6 n0_7 uu p)) ∧
  (∀ (w : World) (N t t1 a0 u0_0 u0_2 u0_4 u0_6 u0_8 u0_10 u0_12 u0_14 u0_16 u0_18 u0_20 u0_22 : Nat) (v0_0 v0_2 v0_3 v0_4 v0_5 v0_6 v0_7 v0_9 v0_10 v1_0 : Value) (n0_0 n0_1 n0_2 n0_3 n0_4 n0_5 n0_6 : Obj) (uu : Nat) (p : Pos), okR (r_p19h w N t t1 a0 u0_0 u0_2 u0_4 u0_6 u0_8 u0_10 u0_12 u0_14 u0_16 u0_18 u0_20 u0_22 v0_0 v0_2 v0_3 v0_4 v0_5 v0_6 v0_7 v0_9 v0_10 v1_0 n0_0 n0_1 n0_2 n0_3 n0_4 n0_5 n0_6 uu p)) :=
  ⟨fun _ _ _ _ _ _ _ _ _ _ _ _ _ _ _ _ _ _ _ _ _ _ _ _ _ _ _ _ _ _ => by kernel_rfl,
  fun _ _ _ _ _ _ _ _ _ _ _ _ _ _ _ _ _ _ _ _ _ _ _ _ _ _ _ _ _ _ _ _ => by kernel_rfl,
  fun _ _ _ _ _ _ _ _ _ _ _ _ _ _ _ _ _ _ _ _ _ _ _ _ _ _ _ _ _ _ _ _ _ => by kernel_rfl,
  fun _ _ _ _ _ _ _ _ _ _ _ _ _ _ _ _ _ _ _ _ _ _ _ _ _ _ _ _ _ _ _ _ _ _ _ => by kernel_rfl,
  fun _ _ _ _ _ _ _ _ _ _ _ _ _ _ _ _ _ _ _ _ _ _ _ _ _ _ _ _ _ _ _ _ _ _ _ _ => by kernel_rfl,
  fun _ _ _ _ _ _ _ _ _ _ _ _ _ _ _ _ _ _ _ _ _ _ _ _ _ _ _ _ _ _ _ _ _ _ _ _ => by kernel_rfl⟩
theorem p19w2 {w : World} {s : Shared} {p : Pos} {N t t1 u0_0 u0_2 u0_4 u0_6 u0_8 u0_10 u0_12 u0_14 u0_16 u0_18 u0_20 u0_22 : Nat} {v0_0 v0_2 v0_3 v0_4 v0_5 v0_6 v0_7 v0_9 v0_10 v0_11 : Value} {n0_0 n0_1 : Obj} {uu : Nat} (hN : s.heap.objs.size = (N + 1090)) (ht : s.toks = t + 1837) (hg : s.gens = #[]) (hk : AKT s.heap (kt2 w.params uu)) (h0 : Hs s 1095 (loc12 w.params (tk u0_0) v0_0 (tk u0_2) (.ref 1107) (tk u0_4) v0_2 (tk u0_6) v0_3 (tk u0_8) v0_4 (tk u0_10) v0_5 (tk u0_12) v0_6 (tk u0_14) v0_7 (tk u0_16) (.bool true) (tk u0_18) v0_9 (tk u0_20) v0_10 (tk u0_22) v0_11)) (hs : segOK t [(0, t1)]) {q0 : List (Addr × Obj)} {w0 : Nat → List Obj} (c0 : CallOK [lawCode] w (kt2 w.params uu) (.call (.ref 459) ⟨[(.ref 1107)], []⟩) (tk (t + 0)) (tk t1) [] q0 (.bool false) [] w0) (e0 : w0 ((N + 1090) + 0) = [n0_0, n0_1]) (g0 : ∀ x ∈ q0, s.heap.get? x.1 = some x.2 ∧ x.1 ∉ [1095]) :
  wp (model PP w) Γf (execs (lawSl 19 1) lawEnv) (fun g _ s' => g = (.ret (.bool true)) ∧ After s s' [1095] (N + 1090) 2 (tk (t1 + 0)) ∧ Hs s' 1095 (loc12 w.params (tk u0_0) v0_0 (tk u0_2) (.ref 1107) (tk u0_4) v0_2 (tk u0_6) v0_3 (tk u0_8) v0_4 (tk u0_10) v0_5 (tk u0_12) v0_6 (tk u0_14) v0_7 (tk u0_16) (.bool true) (tk u0_18) v0_9 (tk u0_20) v0_10 (tk u0_22) v0_11)) (fun _ _ _ => False) p s := by
  have hkb := kb_of w.params uu (l := [1095]) (by decide)
  exact Sem.wp_mono _ _ _ (fun g _ s' h => ⟨h.1, h.2.1, h.2.2 _ m0⟩) (fun _ _ _ h => h) _ _ (tri (cs_R19.1 w N t t1 u0_0 u0_2 u0_4 u0_6 u0_8 u0_10 u0_12 u0_14 u0_16 u0_18 u0_20 u0_22 v0_0 v0_2 v0_3 v0_4 v0_5 v0_6 v0_7 v0_9 v0_10 v0_11 n0_0 n0_1 uu p) (by kernel_rfl) hkb (by decide) hN ht hg hk (mc h0 <| mn) hs (fa_cons (fun RX => spOK_of rfl rfl (sp_base hkb hk) rfl rfl c0 e0 rfl rfl rfl rfl (sp_keep g0)) <| fa_nil))
theorem p19w4 {w : World} {s : Shared} {p : Pos} {N t t1 u0_0 u0_2 u0_4 u0_6 u0_8 u0_10 u0_12 u0_14 u0_16 u0_18 u0_20 u0_22 : Nat} {v0_0 v0_2 v0_3 v0_4 v0_5 v0_6 v0_7 v0_9 v0_10 v0_11 : Value} {n0_0 n0_1 n0_2 n0_3 : Obj} {uu : Nat} (hN : s.heap.objs.size = (N + 1090)) (ht : s.toks = t + 1837) (hg : s.gens = #[]) (hk : AKT s.heap (kt2 w.params uu)) (h0 : Hs s 1095 (loc12 w.params (tk u0_0) v0_0 (tk u0_2) (.ref 1107) (tk u0_4) v0_2 (tk u0_6) v0_3 (tk u0_8) v0_4 (tk u0_10) v0_5 (tk u0_12) v0_6 (tk u0_14) v0_7 (tk u0_16) (.bool true) (tk u0_18) v0_9 (tk u0_20) v0_10 (tk u0_22) v0_11)) (hs : segOK t [(0, t1)]) {q0 : List (Addr × Obj)} {w0 : Nat → List Obj} (c0 : CallOK [lawCode] w (kt2 w.params uu) (.call (.ref 459) ⟨[(.ref 1107)], []⟩) (tk (t + 0)) (tk t1) [] q0 (.bool false) [] w0) (e0 : w0 ((N + 1090) + 0) = [n0_0, n0_1, n0_2, n0_3]) (g0 : ∀ x ∈ q0, s.heap.get? x.1 = some x.2 ∧ x.1 ∉ [1095]) :
  wp (model PP w) Γf (execs (lawSl 19 1) lawEnv) (fun g _ s' => g = (.ret (.bool true)) ∧ After s s' [1095] (N + 1090) 4 (tk (t1 + 0)) ∧ Hs s' 1095 (loc12 w.params (tk u0_0) v0_0 (tk u0_2) (.ref 1107) (tk u0_4) v0_2 (tk u0_6) v0_3 (tk u0_8) v0_4 (tk u0_10) v0_5 (tk u0_12) v0_6 (tk u0_14) v0_7 (tk u0_16) (.bool true) (tk u0_18) v0_9 (tk u0_20) v0_10 (tk u0_22) v0_11)) (fun _ _ _ => False) p s := by
  have hkb := kb_of w.params uu (l := [1095]) (by decide)
  exact Sem.wp_mono _ _ _ (fun g _ s' h => ⟨h.1, h.2.1, h.2.2 _ m0⟩) (fun _ _ _ h => h) _ _ (tri (cs_R19.2.1 w N t t1 u0_0 u0_2 u0_4 u0_6 u0_8 u0_10 u0_12 u0_14 u0_16 u0_18 u0_20 u0_22 v0_0 v0_2 v0_3 v0_4 v0_5 v0_6 v0_7 v0_9 v0_10 v0_11 n0_0 n0_1 n0_2 n0_3 uu p) (by kernel_rfl) hkb (by decide) hN ht hg hk (mc h0 <| mn) hs (fa_cons (fun RX => spOK_of rfl rfl (sp_base hkb hk) rfl rfl c0 e0 rfl rfl rfl rfl (sp_keep g0)) <| fa_nil))
theorem p19w5 {w : World} {s : Shared} {p : Pos} {N t t1 u0_0 u0_2 u0_4 u0_6 u0_8 u0_10 u0_12 u0_14 u0_16 u0_18 u0_20 u0_22 : Nat} {v0_0 v0_2 v0_3 v0_4 v0_5 v0_6 v0_7 v0_9 v0_10 v0_11 : Value} {n0_0 n0_1 n0_2 n0_3 n0_4 : Obj} {uu : Nat} (hN : s.heap.objs.size = (N + 1090)) (ht : s.toks = t + 1837) (hg : s.gens = #[]) (hk : AKT s.heap (kt2 w.params uu)) (h0 : Hs s 1095 (loc12 w.params (tk u0_0) v0_0 (tk u0_2) (.ref 1107) (tk u0_4) v0_2 (tk u0_6) v0_3 (tk u0_8) v0_4 (tk u0_10) v0_5 (tk u0_12) v0_6 (tk u0_14) v0_7 (tk u0_16) (.bool true) (tk u0_18) v0_9 (tk u0_20) v0_10 (tk u0_22) v0_11)) (hs : segOK t [(0, t1)]) {q0 : List (Addr × Obj)} {w0 : Nat → List Obj} (c0 : CallOK [lawCode] w (kt2 w.params uu) (.call (.ref 459) ⟨[(.ref 1107)], []⟩) (tk (t + 0)) (tk t1) [] q0 (.bool false) [] w0) (e0 : w0 ((N + 1090) + 0) = [n0_0, n0_1, n0_2, n0_3, n0_4]) (g0 : ∀ x ∈ q0, s.heap.get? x.1 = some x.2 ∧ x.1 ∉ [1095]) :
  wp (model PP w) Γf (execs (lawSl 19 1) lawEnv) (fun g _ s' => g = (.ret (.bool true)) ∧ After s s' [1095] (N + 1090) 5 (tk (t1 + 0)) ∧ Hs s' 1095 (loc12 w.params (tk u0_0) v0_0 (tk u0_2) (.ref 1107) (tk u0_4) v0_2 (tk u0_6) v0_3 (tk u0_8) v0_4 (tk u0_10) v0_5 (tk u0_12) v0_6 (tk u0_14) v0_7 (tk u0_16) (.bool true) (tk u0_18) v0_9 (tk u0_20) v0_10 (tk u0_22) v0_11)) (fun _ _ _ => False) p s := by
  have hkb := kb_of w.params uu (l := [1095]) (by decide)
  exact Sem.wp_mono _ _ _ (fun g _ s' h => ⟨h.1, h.2.1, h.2.2 _ m0⟩) (fun _ _ _ h => h) _ _ (tri (cs_R19.2.2.1 w N t t1 u0_0 u0_2 u0_4 u0_6 u0_8 u0_10 u0_12 u0_14 u0_16 u0_18 u0_20 u0_22 v0_0 v0_2 v0_3 v0_4 v0_5 v0_6 v0_7 v0_9 v0_10 v0_11 n0_0 n0_1 n0_2 n0_3 n0_4 uu p) (by kernel_rfl) hkb (by decide) hN ht hg hk (mc h0 <| mn) hs (fa_cons (fun RX => spOK_of rfl rfl (sp_base hkb hk) rfl rfl c0 e0 rfl rfl rfl rfl (sp_keep g0)) <| fa_nil))
theorem p19w7 {w : World} {s : Shared} {p : Pos} {N t t1 u0_0 u0_2 u0_4 u0_6 u0_8 u0_10 u0_12 u0_14 u0_16 u0_18 u0_20 u0_22 : Nat} {v0_0 v0_2 v0_3 v0_4 v0_5 v0_6 v0_7 v0_9 v0_10 v0_11 : Value} {n0_0 n0_1 n0_2 n0_3 n0_4 n0_5 n0_6 : Obj} {uu : Nat} (hN : s.heap.objs.size = (N + 1090)) (ht : s.toks = t + 1837) (hg : s.gens = #[]) (hk : AKT s.heap (kt2 w.params uu)) (h0 : Hs s 1095 (loc12 w.params (tk u0_0) v0_0 (tk u0_2) (.ref 1107) (tk u0_4) v0_2 (tk u0_6) v0_3 (tk u0_8) v0_4 (tk u0_10) v0_5 (tk u0_12) v0_6 (tk u0_14) v0_7 (tk u0_16) (.bool true) (tk u0_18) v0_9 (tk u0_20) v0_10 (tk u0_22) v0_11)) (hs : segOK t [(0, t1)]) {q0 : List (Addr × Obj)} {w0 : Nat → List Obj} (c0 : CallOK [lawCode] w (kt2 w.params uu) (.call (.ref 459) ⟨[(.ref 1107)], []⟩) (tk (t + 0)) (tk t1) [] q0 (.bool false) [] w0) (e0 : w0 ((N + 1090) + 0) = [n0_0, n0_1, n0_2, n0_3, n0_4, n0_5, n0_6]) (g0 : ∀ x ∈ q0, s.heap.get? x.1 = some x.2 ∧ x.1 ∉ [1095]) :
  wp (model PP w) Γf (execs (lawSl 19 1) lawEnv) (fun g _ s' => g = (.ret (.bool true)) ∧ After s s' [1095] (N + 1090) 7 (tk (t1 + 0)) ∧ Hs s' 1095 (loc12 w.params (tk u0_0) v0_0 (tk u0_2) (.ref 1107) (tk u0_4) v0_2 (tk u0_6) v0_3 (tk u0_8) v0_4 (tk u0_10) v0_5 (tk u0_12) v0_6 (tk u0_14) v0_7 (tk u0_16) (.bool true) (tk u0_18) v0_9 (tk u0_20) v0_10 (tk u0_22) v0_11)) (fun _ _ _ => False) p s := by
  have hkb := kb_of w.params uu (l := [1095]) (by decide)
  exact Sem.wp_mono _ _ _ (fun g _ s' h => ⟨h.1, h.2.1, h.2.2 _ m0⟩) (fun _ _ _ h => h) _ _ (tri (cs_R19.2.2.2.1 w N t t1 u0_0 u0_2 u0_4 u0_6 u0_8 u0_10 u0_12 u0_14 u0_16 u0_18 u0_20 u0_22 v0_0 v0_2 v0_3 v0_4 v0_5 v0_6 v0_7 v0_9 v0_10 v0_11 n0_0 n0_1 n0_2 n0_3 n0_4 n0_5 n0_6 uu p) (by kernel_rfl) hkb (by decide) hN ht hg hk (mc h0 <| mn) hs (fa_cons (fun RX => spOK_of rfl rfl (sp_base hkb hk) rfl rfl c0 e0 rfl rfl rfl rfl (sp_keep g0)) <| fa_nil))
theorem p19n {w : World} {s : Shared} {p : Pos} {N t t1 a0 u0_0 u0_2 u0_4 u0_6 u0_8 u0_10 u0_12 u0_14 u0_16 u0_18 u0_20 u0_22 : Nat} {v0_0 v0_2 v0_3 v0_4 v0_5 v0_6 v0_7 v0_9 v0_10 : Value} {n0_0 n0_1 n0_2 n0_3 n0_4 n0_5 n0_6 n0_7 : Obj} {uu : Nat} (hN : s.heap.objs.size = (N + 1090)) (ht : s.toks = t + 1837) (hg : s.gens = #[]) (hk : AKT s.heap (kt2 w.params uu)) (ha0 : 1333 ≤ a0 + 1090) (hnd : [1095, (a0 + 1090)].Nodup) (h0 : Hs s 1095 (loc12 w.params (tk u0_0) v0_0 (tk u0_2) (.ref 1107) (tk u0_4) v0_2 (tk u0_6) v0_3 (tk u0_8) v0_4 (tk u0_10) v0_5 (tk u0_12) v0_6 (tk u0_14) v0_7 (tk u0_16) (.bool false) (tk u0_18) v0_9 (tk u0_20) v0_10 (tk u0_22) (.ref (a0 + 1090)))) (h1 : Hs s (a0 + 1090) (ls #[] 0)) (hs : segOK t [(0, t1)]) {q0 : List (Addr × Obj)} {w0 : Nat → List Obj} (c0 : CallOK [lawCode] w (kt2 w.params uu) (.call (.ref 459) ⟨[(.ref 1107)], []⟩) (tk (t + 0)) (tk t1) [] q0 (.bool true) [] w0) (e0 : w0 ((N + 1090) + 0) = [n0_0, n0_1, n0_2, n0_3, n0_4, n0_5, n0_6, n0_7]) (g0 : ∀ x ∈ q0, s.heap.get? x.1 = some x.2 ∧ x.1 ∉ [1095, (a0 + 1090)]) :
  wp (model PP w) Γf (execs (lawSl 19 1) lawEnv) (fun g _ s' => g = (.ret (.bool true)) ∧ After s s' [1095, (a0 + 1090)] (N + 1090) 9 (tk (t1 + 0)) ∧ Hs s' 1095 (loc12 w.params (tk u0_0) v0_0 (tk u0_2) (.ref 1107) (tk u0_4) v0_2 (tk u0_6) v0_3 (tk u0_8) v0_4 (tk u0_10) v0_5 (tk u0_12) v0_6 (tk u0_14) v0_7 (tk u0_16) (.bool false) (tk u0_18) v0_9 (tk u0_20) v0_10 (tk u0_22) (.ref (a0 + 1090))) ∧ Hs s' (a0 + 1090) (ls #[] 0)) (fun _ _ _ => False) p s := by
  have hkb := kb_of w.params uu (l := [1095, (a0 + 1090)]) (fa_cons (.inl (by decide)) <| fa_cons (.inr (by omega)) <| fa_nil)
  exact Sem.wp_mono _ _ _ (fun g _ s' h => ⟨h.1, h.2.1, h.2.2 _ m0, h.2.2 _ m1⟩) (fun _ _ _ h => h) _ _ (tri (cs_R19.2.2.2.2.1 w N t t1 a0 u0_0 u0_2 u0_4 u0_6 u0_8 u0_10 u0_12 u0_14 u0_16 u0_18 u0_20 u0_22 v0_0 v0_2 v0_3 v0_4 v0_5 v0_6 v0_7 v0_9 v0_10 n0_0 n0_1 n0_2 n0_3 n0_4 n0_5 n0_6 n0_7 uu p) (by kernel_rfl) hkb hnd hN ht hg hk (mc h0 <| mc h1 <| mn) hs (fa_cons (fun RX => spOK_of rfl rfl (sp_base hkb hk) rfl rfl c0 e0 rfl rfl rfl rfl (sp_keep g0)) <| fa_nil))
theorem p19h {w : World} {s : Shared} {p : Pos} {N t t1 a0 u0_0 u0_2 u0_4 u0_6 u0_8 u0_10 u0_12 u0_14 u0_16 u0_18 u0_20 u0_22 : Nat} {v0_0 v0_2 v0_3 v0_4 v0_5 v0_6 v0_7 v0_9 v0_10 v1_0 : Value} {n0_0 n0_1 n0_2 n0_3 n0_4 n0_5 n0_6 : Obj} {uu : Nat} (hN : s.heap.objs.size = (N + 1090)) (ht : s.toks = t + 1837) (hg : s.gens = #[]) (hk : AKT s.heap (kt2 w.params uu)) (ha0 : 1333 ≤ a0 + 1090) (hnd : [1095, (a0 + 1090)].Nodup) (h0 : Hs s 1095 (loc12 w.params (tk u0_0) v0_0 (tk u0_2) (.ref 1107) (tk u0_4) v0_2 (tk u0_6) v0_3 (tk u0_8) v0_4 (tk u0_10) v0_5 (tk u0_12) v0_6 (tk u0_14) v0_7 (tk u0_16) (.bool false) (tk u0_18) v0_9 (tk u0_20) v0_10 (tk u0_22) (.ref (a0 + 1090)))) (h1 : Hs s (a0 + 1090) (ls #[v1_0] 1)) (hs : segOK t [(0, t1)]) {q0 : List (Addr × Obj)} {w0 : Nat → List Obj} (c0 : CallOK [lawCode] w (kt2 w.params uu) (.call (.ref 459) ⟨[(.ref 1107)], []⟩) (tk (t + 0)) (tk t1) [] q0 (.bool false) [] w0) (e0 : w0 ((N + 1090) + 0) = [n0_0, n0_1, n0_2, n0_3, n0_4, n0_5, n0_6]) (g0 : ∀ x ∈ q0, s.heap.get? x.1 = some x.2 ∧ x.1 ∉ [1095, (a0 + 1090)]) :
  wp (model PP w) Γf (execs (lawSl 19 1) lawEnv) (fun g _ s' => g = (.ret (.bool true)) ∧ After s s' [1095, (a0 + 1090)] (N + 1090) 8 (tk (t1 + 0)) ∧ Hs s' 1095 (loc12 w.params (tk u0_0) v0_0 (tk u0_2) (.ref 1107) (tk u0_4) v0_2 (tk u0_6) v0_3 (tk u0_8) v0_4 (tk u0_10) v0_5 (tk u0_12) v0_6 (tk u0_14) v0_7 (tk u0_16) (.bool false) (tk u0_18) v0_9 (tk u0_20) v0_10 (tk u0_22) (.ref (a0 + 1090))) ∧ Hs s' (a0 + 1090) (ls #[v1_0] 1)) (fun _ _ _ => False) p s := by
  have hkb := kb_of w.params uu (l := [1095, (a0 + 1090)]) (fa_cons (.inl (by decide)) <| fa_cons (.inr (by omega)) <| fa_nil)
  exact Sem.wp_mono _ _ _ (fun g _ s' h => ⟨h.1, h.2.1, h.2.2 _ m0, h.2.2 _ m1⟩) (fun _ _ _ h => h) _ _ (tri (cs_R19.2.2.2.2.2 w N t t1 a0 u0_0 u0_2 u0_4 u0_6 u0_8 u0_10 u0_12 u0_14 u0_16 u0_18 u0_20 u0_22 v0_0 v0_2 v0_3 v0_4 v0_5 v0_6 v0_7 v0_9 v0_10 v1_0 n0_0 n0_1 n0_2 n0_3 n0_4 n0_5 n0_6 uu p) (by kernel_rfl) hkb hnd hN ht hg hk (mc h0 <| mc h1 <| mn) hs (fa_cons (fun RX => spOK_of rfl rfl (sp_base hkb hk) rfl rfl c0 e0 rfl rfl rfl rfl (sp_keep g0)) <| fa_nil))

end
end Mine
end
section
set_option maxRecDepth 100000
set_option linter.unusedVariables false
open PySem PySem.W PySem.Calls PyProof.Rows
open PySem.Sem (wp)
namespace Mine
noncomputable section
def r_sd (w : World) (N t a0 : Nat) (v0_32 v2_0 v3_0 : Value) (uu : Nat) (p1 p2 : Pos) (p : Pos) : St :=
  runE (VL w (kt2 w.params uu) [1106, 1186, 1221, (a0 + 1090)] (N + 1090) t [] [] [(lawCode, p1), (cc, p2)]) 170 [(0, (sh1106 w.params uu v0_32)),
    (1, (sh1186 w.params uu (.bool false))),
    (2, (sh1221 w.params uu v2_0 (.ref (a0 + 1090)))),
    (3, (ls #[v3_0] 0)),
    (4, (frm #[(en w.params "conn" (tk (t + 0)) (.ref 1107)), (en w.params "space" (tk (t + 1)) (sv "initial" 297)), (en w.params "place" (tk (t + 4)) (.ref 1187))] 3)),
    (5, ⟨(.type "tuple_iterator"), none, (.fields #[(.ref 89), (iv 1 0)]), #[]⟩)] (.ret (.bool false)) 2 12 (.call (.ref 459) ⟨[(.ref 1107)], []⟩) p [] (DD (.call (.ref 459) ⟨[(.ref 1107)], []⟩)) (mkT [(sh1106 w.params uu v0_32),
    (sh1186 w.params uu (.bool false)),
    (sh1221 w.params uu v2_0 (.ref (a0 + 1090))),
    (ls #[v3_0] 0)] 0 .nil) 0 0 0 (dec [0x111111166611121116211111111111166617717771717111222111166111, 0x11222551511411111111111111211162111111111111611311111]) .nil
def r_sgp (w : World) (N t u4_3 : Nat) (v0_32 v2_0 v2_1 v3_1 v3_5 v3_7 v3_8 v3_9 v3_11 v3_12 v3_13 v3_14 v4_2 : Value) (uu : Nat) (p1 p2 : Pos) (p : Pos) : St :=
  runE (VL w (kt2 w.params uu) [1106, 1186, 1221, 1202, 1260] (N + 1090) t [] [] [(lawCode, p1), (cc, p2)]) 426 [(0, (sh1106 w.params uu v0_32)),
    (1, (sh1186 w.params uu (.bool true))),
    (2, (sh1221 w.params uu v2_0 v2_1)),
    (3, (sh1202 w.params uu v3_1 v3_5 v3_7 v3_8 v3_9 v3_11 v3_12 v3_13 v3_14)),
    (4, (sh1260 w.params uu (iv 2 (tk u4_3)) v4_2)),
    (5, (frm #[(en w.params "conn" (tk (t + 0)) (.ref 1107)), (en w.params "space" (tk (t + 1)) (sv "handshake" 298)), (en w.params "place" (tk (t + 4)) (.ref 1195))] 3)),
    (6, ⟨(.type "tuple_iterator"), none, (.fields #[(.ref 89), (iv 2 0)]), #[]⟩),
    (7, (frm #[(en w.params "self" (tk (t + 6)) (.ref 1187))] 1)),
    (8, (frm #[(en w.params "self" (tk (t + 22)) (.ref 1195))] 1))] (.ret (.bool false)) 4 27 (.call (.ref 459) ⟨[(.ref 1107)], []⟩) p [] (DD (.call (.ref 459) ⟨[(.ref 1107)], []⟩)) (mkT [(sh1106 w.params uu v0_32),
    (sh1186 w.params uu (.bool true)),
    (sh1221 w.params uu v2_0 v2_1),
    (sh1202 w.params uu v3_1 v3_5 v3_7 v3_8 v3_9 v3_11 v3_12 v3_13 v3_14),
    (sh1260 w.params uu (iv 2 (tk u4_3)) v4_2)] 0 .nil) 0 0 0 (dec [0x111111177711121117211111111111177718818881818111222111177111, 0x672111111111111731111111111119199111113111111111111117311111, 0x111111111111117771112111721111111111117771881888181122216266, 0x111111111111171122211111111111111111111121117211111111111171, 0x112221626667211111111111171111111111111a1aa1111111]) .nil
def r_sga (w : World) (N t u3_23 u4_3 u4_5 : Nat) (v0_32 v2_0 v2_1 v3_1 v3_5 v3_7 v3_8 v3_9 v3_12 v3_13 v3_14 : Value) (uu : Nat) (p1 p2 : Pos) (p : Pos) : St :=
  runE (VL w (kt2 w.params uu) [1106, 1186, 1221, 1202, 1260] (N + 1090) t [] [] [(lawCode, p1), (cc, p2)]) 628 [(0, (sh1106 w.params uu v0_32)),
    (1, (sh1186 w.params uu (.bool true))),
    (2, (sh1221 w.params uu v2_0 v2_1)),
    (3, (sh1202 w.params uu v3_1 v3_5 v3_7 v3_8 v3_9 (iv 1000 (tk u3_23)) v3_12 v3_13 v3_14)),
    (4, (sh1260 w.params uu (iv 0 (tk u4_3)) (iv 0 (tk u4_5)))),
    (5, (frm #[(en w.params "conn" (tk (t + 0)) (.ref 1107)), (en w.params "space" (tk (t + 1)) (sv "application" 299)), (en w.params "place" (tk (t + 4)) (.ref 1203))] 3)),
    (6, ⟨(.type "tuple_iterator"), none, (.fields #[(.ref 89), (iv 3 0)]), #[]⟩),
    (7, (frm #[(en w.params "self" (tk (t + 6)) (.ref 1187))] 1)),
    (8, (frm #[(en w.params "self" (tk (t + 22)) (.ref 1195))] 1)),
    (9, (frm #[(en w.params "self" (tk (t + 38)) (.ref 1203))] 1))] (.ret (.bool false)) 5 40 (.call (.ref 459) ⟨[(.ref 1107)], []⟩) p [] (DD (.call (.ref 459) ⟨[(.ref 1107)], []⟩)) (mkT [(sh1106 w.params uu v0_32),
    (sh1186 w.params uu (.bool true)),
    (sh1221 w.params uu v2_0 v2_1),
    (sh1202 w.params uu v3_1 v3_5 v3_7 v3_8 v3_9 (iv 1000 (tk u3_23)) v3_12 v3_13 v3_14),
    (sh1260 w.params uu (iv 0 (tk u4_3)) (iv 0 (tk u4_5)))] 0 .nil) 0 0 0 (dec [0x111111177711121117211111111111177718818881818111222111177111, 0x672111111111111731111111111119199111113111111111111117311111, 0x111111111111117771112111721111111111117771881888181122216266, 0x111111111111171122211111111111111111111121117211111111111171, 0x7188188818112221626667211111111111171111111111111a1aa1111111, 0x211172111111111111711511111111111177711121117211111111111177, 0x111111111b1bb11111511111111111111711222111111111111111111111, 0x5111]) .nil
def r_sgo (w : World) (N t u4_3 u4_5 : Nat) (v0_32 v2_0 v2_1 v3_1 v3_5 v3_7 v3_8 v3_9 v3_12 v3_13 v3_14 v5_0 : Value) (uu : Nat) (p1 p2 : Pos) (p : Pos) : St :=
  runE (VL w (kt2 w.params uu) [1106, 1186, 1221, 1202, 1260, 1305] (N + 1090) t [] [] [(lawCode, p1), (cc, p2)]) 721 [(0, (sh1106 w.params uu v0_32)),
    (1, (sh1186 w.params uu (.bool true))),
    (2, (sh1221 w.params uu v2_0 v2_1)),
    (3, (sh1202 w.params uu v3_1 v3_5 v3_7 v3_8 v3_9 .none v3_12 v3_13 v3_14)),
    (4, (sh1260 w.params uu (iv 0 (tk u4_3)) (iv 0 (tk u4_5)))),
    (5, (ls #[v5_0] 1)),
    (6, (frm #[(en w.params "conn" (tk (t + 0)) (.ref 1107)), (en w.params "space" (tk (t + 1)) (sv "application" 299)), (en w.params "place" (tk (t + 4)) (.ref 1203))] 3)),
    (7, ⟨(.type "tuple_iterator"), none, (.fields #[.none, (iv 3 0)]), #[]⟩),
    (8, (frm #[(en w.params "self" (tk (t + 6)) (.ref 1187))] 1)),
    (9, (frm #[(en w.params "self" (tk (t + 22)) (.ref 1195))] 1)),
    (10, (frm #[(en w.params "self" (tk (t + 38)) (.ref 1203))] 1)),
    (11, (tpO #[] 0)),
    (12, ⟨(.type "StopIteration"), none, (.fields #[(.ref ((N + 1090) + 5)), .none, .none, .none, (.bool false), .none]), #[]⟩)] (.ret (.bool false)) 7 47 (.call (.ref 459) ⟨[(.ref 1107)], []⟩) p [] (DD (.call (.ref 459) ⟨[(.ref 1107)], []⟩)) (mkT [(sh1106 w.params uu v0_32),
    (sh1186 w.params uu (.bool true)),
    (sh1221 w.params uu v2_0 v2_1),
    (sh1202 w.params uu v3_1 v3_5 v3_7 v3_8 v3_9 .none v3_12 v3_13 v3_14),
    (sh1260 w.params uu (iv 0 (tk u4_3)) (iv 0 (tk u4_5))),
    (ls #[v5_0] 1)] 0 .nil) 0 0 0 (dec [0x111111188811121118211111111111188819919991919111222111188111, 0x68211111111111183111111111111a1aa111113111111111111118311111, 0x111111111111118881112111821111111111118881991999191122216266, 0x111111111111181122211111111111111111111121118211111111111181, 0x8199199919112221626668211111111111181111111111111b1bb1111111, 0x211182111111111111811511111111111188811121118211111111111188, 0x1111111110100cc11111511111111111111811222111111111111111111111, 0x7717121111111111118110ec99199919112221626668211111111111185111, 0x11222]) .nil
def r_sg1 (w : World) (N t a1 u4_3 u4_5 : Nat) (v0_32 v2_0 v2_1 v3_1 v3_5 v3_7 v3_8 v3_9 v3_12 v3_13 v3_14 v7_0 : Value) (uu : Nat) (p1 p2 : Pos) (p : Pos) : St :=
  runE (VL w (kt2 w.params uu) [1106, 1186, 1221, 1202, 1260, 1305, 1287, (a1 + 1090)] (N + 1090) t [] [] [(lawCode, p1), (cc, p2)]) 782 [(0, (sh1106 w.params uu v0_32)),
    (1, (sh1186 w.params uu (.bool true))),
    (2, (sh1221 w.params uu v2_0 v2_1)),
    (3, (sh1202 w.params uu v3_1 v3_5 v3_7 v3_8 v3_9 .none v3_12 v3_13 v3_14)),
    (4, (sh1260 w.params uu (iv 0 (tk u4_3)) (iv 0 (tk u4_5)))),
    (5, (ls #[] 0)),
    (6, (sh1287 w.params uu (.ref (a1 + 1090)))),
    (7, (ls #[v7_0] 1)),
    (8, (frm #[(en w.params "conn" (tk (t + 0)) (.ref 1107)), (en w.params "space" (tk (t + 1)) (sv "application" 299)), (en w.params "place" (tk (t + 4)) (.ref 1203))] 3)),
    (9, ⟨(.type "tuple_iterator"), none, (.fields #[.none, (iv 3 0)]), #[]⟩),
    (10, (frm #[(en w.params "self" (tk (t + 6)) (.ref 1187))] 1)),
    (11, (frm #[(en w.params "self" (tk (t + 22)) (.ref 1195))] 1)),
    (12, (frm #[(en w.params "self" (tk (t + 38)) (.ref 1203))] 1)),
    (13, (tpO #[] 0)),
    (14, ⟨(.type "StopIteration"), none, (.fields #[(.ref ((N + 1090) + 5)), .none, .none, .none, (.bool false), .none]), #[]⟩)] (.ret (.bool false)) 7 52 (.call (.ref 459) ⟨[(.ref 1107)], []⟩) p [] (DD (.call (.ref 459) ⟨[(.ref 1107)], []⟩)) (mkT [(sh1106 w.params uu v0_32),
    (sh1186 w.params uu (.bool true)),
    (sh1221 w.params uu v2_0 v2_1),
    (sh1202 w.params uu v3_1 v3_5 v3_7 v3_8 v3_9 .none v3_12 v3_13 v3_14),
    (sh1260 w.params uu (iv 0 (tk u4_3)) (iv 0 (tk u4_5))),
    (ls #[] 0),
    (sh1287 w.params uu (.ref (a1 + 1090))),
    (ls #[v7_0] 1)] 0 .nil) 0 0 0 (dec [0x1111111aaa1112111a2111111111111aaa1bb1bbb1b1b1112221111aa111, 0x6a2111111111111a31111111111110100cc11111311111111111111a311111, 0x11111111111111aaa1112111a2111111111111aaa1bb1bbb1b1122216266, 0x1111111111111a112221111111111111111111112111a2111111111111a1, 0xa1bb1bbb1b11222162666a2111111111111a11111111111110100dc1111111, 0x2111a2111111111111a115111111111111aaa1112111a2111111111111aa, 0x1111111110100ec11111511111111111111a11222111111111111111111111, 0x771712111111111111a1110cbb1bbb1b11222162666a2111111111111a5111, 0x1122299191181111111111112111111111111a1111222]) .nil
def r_sg2 (w : World) (N t a1 u4_3 u4_5 : Nat) (v0_32 v2_0 v2_1 v3_1 v3_5 v3_7 v3_8 v3_9 v3_12 v3_13 v3_14 v7_0 v7_1 : Value) (uu : Nat) (p1 p2 : Pos) (p : Pos) : St :=
  runE (VL w (kt2 w.params uu) [1106, 1186, 1221, 1202, 1260, 1305, 1287, (a1 + 1090)] (N + 1090) t [] [] [(lawCode, p1), (cc, p2)]) 782 [(0, (sh1106 w.params uu v0_32)),
    (1, (sh1186 w.params uu (.bool true))),
    (2, (sh1221 w.params uu v2_0 v2_1)),
    (3, (sh1202 w.params uu v3_1 v3_5 v3_7 v3_8 v3_9 .none v3_12 v3_13 v3_14)),
    (4, (sh1260 w.params uu (iv 0 (tk u4_3)) (iv 0 (tk u4_5)))),
    (5, (ls #[] 0)),
    (6, (sh1287 w.params uu (.ref (a1 + 1090)))),
    (7, (ls #[v7_0, v7_1] 1)),
    (8, (frm #[(en w.params "conn" (tk (t + 0)) (.ref 1107)), (en w.params "space" (tk (t + 1)) (sv "application" 299)), (en w.params "place" (tk (t + 4)) (.ref 1203))] 3)),
    (9, ⟨(.type "tuple_iterator"), none, (.fields #[.none, (iv 3 0)]), #[]⟩),
    (10, (frm #[(en w.params "self" (tk (t + 6)) (.ref 1187))] 1)),
    (11, (frm #[(en w.params "self" (tk (t + 22)) (.ref 1195))] 1)),
    (12, (frm #[(en w.params "self" (tk (t + 38)) (.ref 1203))] 1)),
    (13, (tpO #[] 0)),
    (14, ⟨(.type "StopIteration"), none, (.fields #[(.ref ((N + 1090) + 5)), .none, .none, .none, (.bool false), .none]), #[]⟩)] (.ret (.bool false)) 7 52 (.call (.ref 459) ⟨[(.ref 1107)], []⟩) p [] (DD (.call (.ref 459) ⟨[(.ref 1107)], []⟩)) (mkT [(sh1106 w.params uu v0_32),
    (sh1186 w.params uu (.bool true)),
    (sh1221 w.params uu v2_0 v2_1),
    (sh1202 w.params uu v3_1 v3_5 v3_7 v3_8 v3_9 .none v3_12 v3_13 v3_14),
    (sh1260 w.params uu (iv 0 (tk u4_3)) (iv 0 (tk u4_5))),
    (ls #[] 0),
    (sh1287 w.params uu (.ref (a1 + 1090))),
    (ls #[v7_0, v7_1] 1)] 0 .nil) 0 0 0 (dec [0x1111111aaa1112111a2111111111111aaa1bb1bbb1b1b1112221111aa111, 0x6a2111111111111a31111111111110100cc11111311111111111111a311111, 0x11111111111111aaa1112111a2111111111111aaa1bb1bbb1b1122216266, 0x1111111111111a112221111111111111111111112111a2111111111111a1, 0xa1bb1bbb1b11222162666a2111111111111a11111111111110100dc1111111, 0x2111a2111111111111a115111111111111aaa1112111a2111111111111aa, 0x1111111110100ec11111511111111111111a11222111111111111111111111, 0x771712111111111111a1110cbb1bbb1b11222162666a2111111111111a5111, 0x1122299191181111111111112111111111111a1111222]) .nil
def r_sgt (w : World) (N t a1 u4_3 u4_5 : Nat) (v0_32 v2_0 v2_1 v3_1 v3_5 v3_7 v3_8 v3_9 v3_12 v3_13 v3_14 : Value) (uu : Nat) (p1 p2 : Pos) (p : Pos) : St :=
  runE (VL w (kt2 w.params uu) [1106, 1186, 1221, 1202, 1260, 1305, 1287, (a1 + 1090)] (N + 1090) t [] [] [(lawCode, p1), (cc, p2)]) 843 [(0, (sh1106 w.params uu v0_32)),
    (1, (sh1186 w.params uu (.bool true))),
    (2, (sh1221 w.params uu v2_0 v2_1)),
    (3, (sh1202 w.params uu v3_1 v3_5 v3_7 v3_8 v3_9 .none v3_12 v3_13 v3_14)),
    (4, (sh1260 w.params uu (iv 0 (tk u4_3)) (iv 0 (tk u4_5)))),
    (5, (ls #[] 0)),
    (6, (sh1287 w.params uu (.ref (a1 + 1090)))),
    (7, (ls #[] 0)),
    (8, (frm #[(en w.params "conn" (tk (t + 0)) (.ref 1107)), (en w.params "space" (tk (t + 1)) (sv "application" 299)), (en w.params "place" (tk (t + 4)) (.ref 1203))] 3)),
    (9, ⟨(.type "tuple_iterator"), none, (.fields #[.none, (iv 3 0)]), #[]⟩),
    (10, (frm #[(en w.params "self" (tk (t + 6)) (.ref 1187))] 1)),
    (11, (frm #[(en w.params "self" (tk (t + 22)) (.ref 1195))] 1)),
    (12, (frm #[(en w.params "self" (tk (t + 38)) (.ref 1203))] 1)),
    (13, (tpO #[] 0)),
    (14, ⟨(.type "StopIteration"), none, (.fields #[(.ref ((N + 1090) + 5)), .none, .none, .none, (.bool false), .none]), #[]⟩),
    (15, (frm #[] 0))] (.ret (.bool true)) 8 54 (.call (.ref 459) ⟨[(.ref 1107)], []⟩) p [] (DD (.call (.ref 459) ⟨[(.ref 1107)], []⟩)) (mkT [(sh1106 w.params uu v0_32),
    (sh1186 w.params uu (.bool true)),
    (sh1221 w.params uu v2_0 v2_1),
    (sh1202 w.params uu v3_1 v3_5 v3_7 v3_8 v3_9 .none v3_12 v3_13 v3_14),
    (sh1260 w.params uu (iv 0 (tk u4_3)) (iv 0 (tk u4_5))),
    (ls #[] 0),
    (sh1287 w.params uu (.ref (a1 + 1090))),
    (ls #[] 0)] 0 .nil) 0 0 0 (dec [0x1111111aaa1112111a2111111111111aaa1bb1bbb1b1b1112221111aa111, 0x6a2111111111111a31111111111110100cc11111311111111111111a311111, 0x11111111111111aaa1112111a2111111111111aaa1bb1bbb1b1122216266, 0x1111111111111a112221111111111111111111112111a2111111111111a1, 0xa1bb1bbb1b11222162666a2111111111111a11111111111110100dc1111111, 0x2111a2111111111111a115111111111111aaa1112111a2111111111111aa, 0x1111111110100ec11111511111111111111a11222111111111111111111111, 0x771712111111111111a1110cbb1bbb1b11222162666a2111111111111a5111, 0x12111111111111a1122299191181111111111112111111111111a1111222, 0x11111111111111111111111111111]) .nil
def r_sep (w : World) (N t u4_3 : Nat) (v0_32 v2_0 v3_1 v3_5 v3_7 v3_8 v3_9 v3_11 v3_12 v3_13 v3_14 v4_2 : Value) (uu : Nat) (p1 p2 : Pos) (p : Pos) : St :=
  runE (VL w (kt2 w.params uu) [1106, 1186, 1221, 1202, 1260] (N + 1090) t [] [] [(lawCode, p1), (cc, p2)]) 495 [(0, (sh1106 w.params uu v0_32)),
    (1, (sh1186 w.params uu (.bool false))),
    (2, (sh1221 w.params uu v2_0 (.ref 1224))),
    (3, (sh1202 w.params uu v3_1 v3_5 v3_7 v3_8 v3_9 v3_11 v3_12 v3_13 v3_14)),
    (4, (sh1260 w.params uu (iv 2 (tk u4_3)) v4_2)),
    (5, (frm #[(en w.params "conn" (tk (t + 0)) (.ref 1107)), (en w.params "space" (tk (t + 1)) (sv "handshake" 298)), (en w.params "place" (tk (t + 4)) (.ref 1195))] 3)),
    (6, ⟨(.type "tuple_iterator"), none, (.fields #[(.ref 89), (iv 2 0)]), #[]⟩),
    (7, (frm #[(en w.params "self" (tk (t + 12)) (.ref 1187))] 1)),
    (8, (frm #[(en w.params "self" (tk (t + 28)) (.ref 1195))] 1))] (.ret (.bool false)) 4 33 (.call (.ref 459) ⟨[(.ref 1107)], []⟩) p [] (DD (.call (.ref 459) ⟨[(.ref 1107)], []⟩)) (mkT [(sh1106 w.params uu v0_32),
    (sh1186 w.params uu (.bool false)),
    (sh1221 w.params uu v2_0 (.ref 1224)),
    (sh1202 w.params uu v3_1 v3_5 v3_7 v3_8 v3_9 v3_11 v3_12 v3_13 v3_14),
    (sh1260 w.params uu (iv 2 (tk u4_3)) v4_2)] 0 .nil) 0 0 0 (dec [0x111111177711121117211111111111177718818881818111222111177111, 0x111111711222111111411111111111111211172111111111111711311111, 0x818112221626667211111111111173111111111111919911111311111111, 0x111111111117111111111111111777111211172111111111111777188188, 0x11a1aa111111111111111111117112221111111111111111111112111721, 0x1122216266672111111111111711111111111]) .nil
def r_sea (w : World) (N t u3_23 u4_3 u4_5 : Nat) (v0_32 v2_0 v3_1 v3_5 v3_7 v3_8 v3_9 v3_12 v3_13 v3_14 : Value) (uu : Nat) (p1 p2 : Pos) (p : Pos) : St :=
  runE (VL w (kt2 w.params uu) [1106, 1186, 1221, 1202, 1260] (N + 1090) t [] [] [(lawCode, p1), (cc, p2)]) 697 [(0, (sh1106 w.params uu v0_32)),
    (1, (sh1186 w.params uu (.bool false))),
    (2, (sh1221 w.params uu v2_0 (.ref 1224))),
    (3, (sh1202 w.params uu v3_1 v3_5 v3_7 v3_8 v3_9 (iv 1000 (tk u3_23)) v3_12 v3_13 v3_14)),
    (4, (sh1260 w.params uu (iv 0 (tk u4_3)) (iv 0 (tk u4_5)))),
    (5, (frm #[(en w.params "conn" (tk (t + 0)) (.ref 1107)), (en w.params "space" (tk (t + 1)) (sv "application" 299)), (en w.params "place" (tk (t + 4)) (.ref 1203))] 3)),
    (6, ⟨(.type "tuple_iterator"), none, (.fields #[(.ref 89), (iv 3 0)]), #[]⟩),
    (7, (frm #[(en w.params "self" (tk (t + 12)) (.ref 1187))] 1)),
    (8, (frm #[(en w.params "self" (tk (t + 28)) (.ref 1195))] 1)),
    (9, (frm #[(en w.params "self" (tk (t + 44)) (.ref 1203))] 1))] (.ret (.bool false)) 5 46 (.call (.ref 459) ⟨[(.ref 1107)], []⟩) p [] (DD (.call (.ref 459) ⟨[(.ref 1107)], []⟩)) (mkT [(sh1106 w.params uu v0_32),
    (sh1186 w.params uu (.bool false)),
    (sh1221 w.params uu v2_0 (.ref 1224)),
    (sh1202 w.params uu v3_1 v3_5 v3_7 v3_8 v3_9 (iv 1000 (tk u3_23)) v3_12 v3_13 v3_14),
    (sh1260 w.params uu (iv 0 (tk u4_3)) (iv 0 (tk u4_5)))] 0 .nil) 0 0 0 (dec [0x111111177711121117211111111111177718818881818111222111177111, 0x111111711222111111411111111111111211172111111111111711311111, 0x818112221626667211111111111173111111111111919911111311111111, 0x111111111117111111111111111777111211172111111111111777188188, 0x11a1aa111111111111111111117112221111111111111111111112111721, 0x111111111117771881888181122216266672111111111111711111111111, 0x111111111111121117211111111111171151111111111117771112111721, 0x5111111111111b1bb1111151111111111111171122211111111]) .nil
def r_seo (w : World) (N t u4_3 u4_5 : Nat) (v0_32 v2_0 v3_1 v3_5 v3_7 v3_8 v3_9 v3_12 v3_13 v3_14 v5_0 : Value) (uu : Nat) (p1 p2 : Pos) (p : Pos) : St :=
  runE (VL w (kt2 w.params uu) [1106, 1186, 1221, 1202, 1260, 1305] (N + 1090) t [] [] [(lawCode, p1), (cc, p2)]) 790 [(0, (sh1106 w.params uu v0_32)),
    (1, (sh1186 w.params uu (.bool false))),
    (2, (sh1221 w.params uu v2_0 (.ref 1224))),
    (3, (sh1202 w.params uu v3_1 v3_5 v3_7 v3_8 v3_9 .none v3_12 v3_13 v3_14)),
    (4, (sh1260 w.params uu (iv 0 (tk u4_3)) (iv 0 (tk u4_5)))),
    (5, (ls #[v5_0] 1)),
    (6, (frm #[(en w.params "conn" (tk (t + 0)) (.ref 1107)), (en w.params "space" (tk (t + 1)) (sv "application" 299)), (en w.params "place" (tk (t + 4)) (.ref 1203))] 3)),
    (7, ⟨(.type "tuple_iterator"), none, (.fields #[.none, (iv 3 0)]), #[]⟩),
    (8, (frm #[(en w.params "self" (tk (t + 12)) (.ref 1187))] 1)),
    (9, (frm #[(en w.params "self" (tk (t + 28)) (.ref 1195))] 1)),
    (10, (frm #[(en w.params "self" (tk (t + 44)) (.ref 1203))] 1)),
    (11, (tpO #[] 0)),
    (12, ⟨(.type "StopIteration"), none, (.fields #[(.ref ((N + 1090) + 5)), .none, .none, .none, (.bool false), .none]), #[]⟩)] (.ret (.bool false)) 7 53 (.call (.ref 459) ⟨[(.ref 1107)], []⟩) p [] (DD (.call (.ref 459) ⟨[(.ref 1107)], []⟩)) (mkT [(sh1106 w.params uu v0_32),
    (sh1186 w.params uu (.bool false)),
    (sh1221 w.params uu v2_0 (.ref 1224)),
    (sh1202 w.params uu v3_1 v3_5 v3_7 v3_8 v3_9 .none v3_12 v3_13 v3_14),
    (sh1260 w.params uu (iv 0 (tk u4_3)) (iv 0 (tk u4_5))),
    (ls #[v5_0] 1)] 0 .nil) 0 0 0 (dec [0x111111188811121118211111111111188819919991919111222111188111, 0x111111811222111111411111111111111211182111111111111811311111, 0x919112221626668211111111111183111111111111a1aa11111311111111, 0x111111111118111111111111111888111211182111111111111888199199, 0x11b1bb111111111111111111118112221111111111111111111112111821, 0x111111111118881991999191122216266682111111111111811111111111, 0x111111111111121118211111111111181151111111111118881112111821, 0x11111111851111111111110100cc1111151111111111111181122211111111, 0x112227717121111111111118110ec9919991911222162666821111]) .nil
def r_se1 (w : World) (N t a1 u4_3 u4_5 : Nat) (v0_32 v2_0 v3_1 v3_5 v3_7 v3_8 v3_9 v3_12 v3_13 v3_14 v7_0 : Value) (uu : Nat) (p1 p2 : Pos) (p : Pos) : St :=
  runE (VL w (kt2 w.params uu) [1106, 1186, 1221, 1202, 1260, 1305, 1287, (a1 + 1090)] (N + 1090) t [] [] [(lawCode, p1), (cc, p2)]) 851 [(0, (sh1106 w.params uu v0_32)),
    (1, (sh1186 w.params uu (.bool false))),
    (2, (sh1221 w.params uu v2_0 (.ref 1224))),
    (3, (sh1202 w.params uu v3_1 v3_5 v3_7 v3_8 v3_9 .none v3_12 v3_13 v3_14)),
    (4, (sh1260 w.params uu (iv 0 (tk u4_3)) (iv 0 (tk u4_5)))),
    (5, (ls #[] 0)),
    (6, (sh1287 w.params uu (.ref (a1 + 1090)))),
    (7, (ls #[v7_0] 1)),
    (8, (frm #[(en w.params "conn" (tk (t + 0)) (.ref 1107)), (en w.params "space" (tk (t + 1)) (sv "application" 299)), (en w.params "place" (tk (t + 4)) (.ref 1203))] 3)),
    (9, ⟨(.type "tuple_iterator"), none, (.fields #[.none, (iv 3 0)]), #[]⟩),
    (10, (frm #[(en w.params "self" (tk (t + 12)) (.ref 1187))] 1)),
    (11, (frm #[(en w.params "self" (tk (t + 28)) (.ref 1195))] 1)),
    (12, (frm #[(en w.params "self" (tk (t + 44)) (.ref 1203))] 1)),
    (13, (tpO #[] 0)),
    (14, ⟨(.type "StopIteration"), none, (.fields #[(.ref ((N + 1090) + 5)), .none, .none, .none, (.bool false), .none]), #[]⟩)] (.ret (.bool false)) 7 58 (.call (.ref 459) ⟨[(.ref 1107)], []⟩) p [] (DD (.call (.ref 459) ⟨[(.ref 1107)], []⟩)) (mkT [(sh1106 w.params uu v0_32),
    (sh1186 w.params uu (.bool false)),
    (sh1221 w.params uu v2_0 (.ref 1224)),
    (sh1202 w.params uu v3_1 v3_5 v3_7 v3_8 v3_9 .none v3_12 v3_13 v3_14),
    (sh1260 w.params uu (iv 0 (tk u4_3)) (iv 0 (tk u4_5))),
    (ls #[] 0),
    (sh1287 w.params uu (.ref (a1 + 1090))),
    (ls #[v7_0] 1)] 0 .nil) 0 0 0 (dec [0x1111111aaa1112111a2111111111111aaa1bb1bbb1b1b1112221111aa111, 0x111111a112221111114111111111111112111a2111111111111a11311111, 0xb1b11222162666a2111111111111a31111111111110100cc11111311111111, 0x11111111111a111111111111111aaa1112111a2111111111111aaa1bb1bb, 0x110100dc11111111111111111111a112221111111111111111111112111a21, 0x11111111111aaa1bb1bbb1b11222162666a2111111111111a11111111111, 0x11111111111112111a2111111111111a115111111111111aaa1112111a21, 0x11111111a51111111111110100ec11111511111111111111a1122211111111, 0x11111a1111222771712111111111111a1110cbb1bbb1b11222162666a21111, 0x11222991911811111111111121111111]) .nil
def r_se2 (w : World) (N t a1 u4_3 u4_5 : Nat) (v0_32 v2_0 v3_1 v3_5 v3_7 v3_8 v3_9 v3_12 v3_13 v3_14 v7_0 v7_1 : Value) (uu : Nat) (p1 p2 : Pos) (p : Pos) : St :=
  runE (VL w (kt2 w.params uu) [1106, 1186, 1221, 1202, 1260, 1305, 1287, (a1 + 1090)] (N + 1090) t [] [] [(lawCode, p1), (cc, p2)]) 851 [(0, (sh1106 w.params uu v0_32)),
    (1, (sh1186 w.params uu (.bool false))),
    (2, (sh1221 w.params uu v2_0 (.ref 1224))),
    (3, (sh1202 w.params uu v3_1 v3_5 v3_7 v3_8 v3_9 .none v3_12 v3_13 v3_14)),
    (4, (sh1260 w.params uu (iv 0 (tk u4_3)) (iv 0 (tk u4_5)))),
    (5, (ls #[] 0)),
    (6, (sh1287 w.params uu (.ref (a1 + 1090)))),
    (7, (ls #[v7_0, v7_1] 1)),
    (8, (frm #[(en w.params "conn" (tk (t + 0)) (.ref 1107)), (en w.params "space" (tk (t + 1)) (sv "application" 299)), (en w.params "place" (tk (t + 4)) (.ref 1203))] 3)),
    (9, ⟨(.type "tuple_iterator"), none, (.fields #[.none, (iv 3 0)]), #[]⟩),
    (10, (frm #[(en w.params "self" (tk (t + 12)) (.ref 1187))] 1)),
    (11, (frm #[(en w.params "self" (tk (t + 28)) (.ref 1195))] 1)),
    (12, (frm #[(en w.params "self" (tk (t + 44)) (.ref 1203))] 1)),
    (13, (tpO #[] 0)),
    (14, ⟨(.type "StopIteration"), none, (.fields #[(.ref ((N + 1090) + 5)), .none, .none, .none, (.bool false), .none]), #[]⟩)] (.ret (.bool false)) 7 58 (.call (.ref 459) ⟨[(.ref 1107)], []⟩) p [] (DD (.call (.ref 459) ⟨[(.ref 1107)], []⟩)) (mkT [(sh1106 w.params uu v0_32),
    (sh1186 w.params uu (.bool false)),
    (sh1221 w.params uu v2_0 (.ref 1224)),
    (sh1202 w.params uu v3_1 v3_5 v3_7 v3_8 v3_9 .none v3_12 v3_13 v3_14),
    (sh1260 w.params uu (iv 0 (tk u4_3)) (iv 0 (tk u4_5))),
    (ls #[] 0),
    (sh1287 w.params uu (.ref (a1 + 1090))),
    (ls #[v7_0, v7_1] 1)] 0 .nil) 0 0 0 (dec [0x1111111aaa1112111a2111111111111aaa1bb1bbb1b1b1112221111aa111, 0x111111a112221111114111111111111112111a2111111111111a11311111, 0xb1b11222162666a2111111111111a31111111111110100cc11111311111111, 0x11111111111a111111111111111aaa1112111a2111111111111aaa1bb1bb, 0x110100dc11111111111111111111a112221111111111111111111112111a21, 0x11111111111aaa1bb1bbb1b11222162666a2111111111111a11111111111, 0x11111111111112111a2111111111111a115111111111111aaa1112111a21, 0x11111111a51111111111110100ec11111511111111111111a1122211111111, 0x11111a1111222771712111111111111a1110cbb1bbb1b11222162666a21111, 0x11222991911811111111111121111111]) .nil
def r_set (w : World) (N t a1 u4_3 u4_5 : Nat) (v0_32 v2_0 v3_1 v3_5 v3_7 v3_8 v3_9 v3_12 v3_13 v3_14 : Value) (uu : Nat) (p1 p2 : Pos) (p : Pos) : St :=
  runE (VL w (kt2 w.params uu) [1106, 1186, 1221, 1202, 1260, 1305, 1287, (a1 + 1090)] (N + 1090) t [] [] [(lawCode, p1), (cc, p2)]) 912 [(0, (sh1106 w.params uu v0_32)),
    (1, (sh1186 w.params uu (.bool false))),
    (2, (sh1221 w.params uu v2_0 (.ref 1224))),
    (3, (sh1202 w.params uu v3_1 v3_5 v3_7 v3_8 v3_9 .none v3_12 v3_13 v3_14)),
    (4, (sh1260 w.params uu (iv 0 (tk u4_3)) (iv 0 (tk u4_5)))),
    (5, (ls #[] 0)),
    (6, (sh1287 w.params uu (.ref (a1 + 1090)))),
    (7, (ls #[] 0)),
    (8, (frm #[(en w.params "conn" (tk (t + 0)) (.ref 1107)), (en w.params "space" (tk (t + 1)) (sv "application" 299)), (en w.params "place" (tk (t + 4)) (.ref 1203))] 3)),
    (9, ⟨(.type "tuple_iterator"), none, (.fields #[.none, (iv 3 0)]), #[]⟩),
    (10, (frm #[(en w.params "self" (tk (t + 12)) (.ref 1187))] 1)),
    (11, (frm #[(en w.params "self" (tk (t + 28)) (.ref 1195))] 1)),
    (12, (frm #[(en w.params "self" (tk (t + 44)) (.ref 1203))] 1)),
    (13, (tpO #[] 0)),
    (14, ⟨(.type "StopIteration"), none, (.fields #[(.ref ((N + 1090) + 5)), .none, .none, .none, (.bool false), .none]), #[]⟩),
    (15, (frm #[] 0))] (.ret (.bool true)) 8 60 (.call (.ref 459) ⟨[(.ref 1107)], []⟩) p [] (DD (.call (.ref 459) ⟨[(.ref 1107)], []⟩)) (mkT [(sh1106 w.params uu v0_32),
    (sh1186 w.params uu (.bool false)),
    (sh1221 w.params uu v2_0 (.ref 1224)),
    (sh1202 w.params uu v3_1 v3_5 v3_7 v3_8 v3_9 .none v3_12 v3_13 v3_14),
    (sh1260 w.params uu (iv 0 (tk u4_3)) (iv 0 (tk u4_5))),
    (ls #[] 0),
    (sh1287 w.params uu (.ref (a1 + 1090))),
    (ls #[] 0)] 0 .nil) 0 0 0 (dec [0x1111111aaa1112111a2111111111111aaa1bb1bbb1b1b1112221111aa111, 0x111111a112221111114111111111111112111a2111111111111a11311111, 0xb1b11222162666a2111111111111a31111111111110100cc11111311111111, 0x11111111111a111111111111111aaa1112111a2111111111111aaa1bb1bb, 0x110100dc11111111111111111111a112221111111111111111111112111a21, 0x11111111111aaa1bb1bbb1b11222162666a2111111111111a11111111111, 0x11111111111112111a2111111111111a115111111111111aaa1112111a21, 0x11111111a51111111111110100ec11111511111111111111a1122211111111, 0x11111a1111222771712111111111111a1110cbb1bbb1b11222162666a21111, 0x111111111111112111111111111a11222991911811111111111121111111, 0x1111111111111111]) .nil
theorem cs_RS :
  (∀ (w : World) (N t a0 : Nat) (v0_32 v2_0 v3_0 : Value) (uu : Nat) (p1 p2 : Pos) (p : Pos), okR (r_sd w N t a0 v0_32 v2_0 v3_0 uu p1 p2 p)) ∧
  (∀ (w : World) (N t u4_3 : Nat) (v0_32 v2_0 v2_1 v3_1 v3_5 v3_7 v3_8 v3_9 v3_11 v3_12 v3_13 v3_14 v4_2 : Value) (uu : Nat) (p1 p2 : Pos) (p : Pos), okR (r_sgp w N t u4_3 v0_32 v2_0 v2_1 v3_1 v3_5 v3_7 v3_8 v3_9 v3_11 v3_12 v3_13 v3_14 v4_2 uu p1 p2 p)) ∧
  (∀ (w : World) (N t u3_23 u4_3 u4_5 : Nat) (v0_32 v2_0 v2_1 v3_1 v3_5 v3_7 v3_8 v3_9 v3_12 v3_13 v3_14 : Value) (uu : Nat) (p1 p2 : Pos) (p : Pos), okR (r_sga w N t u3_23 u4_3 u4_5 v0_32 v2_0 v2_1 v3_1 v3_5 v3_7 v3_8 v3_9 v3_12 v3_13 v3_14 uu p1 p2 p)) ∧
  (∀ (w : World) (N t u4_3 u4_5 : Nat) (v0_32 v2_0 v2_1 v3_1 v3_5 v3_7 v3_8 v3_9 v3_12 v3_13 v3_14 v5_0 : Value) (uu : Nat) (p1 p2 : Pos) (p : Pos), okR (r_sgo w N t u4_3 u4_5 v0_32 v2_0 v2_1 v3_1 v3_5 v3_7 v3_8 v3_9 v3_12 v3_13 v3_14 v5_0 uu p1 p2 p)) ∧
  (∀ (w : World) (N t a1 u4_3 u4_5 : Nat) (v0_32 v2_0 v2_1 v3_1 v3_5 v3_7 v3_8 v3_9 v3_12 v3_13 v3_14 v7_0 : Value) (uu : Nat) (p1 p2 : Pos) (p : Pos), okR (r_sg1 w N t a1 u4_3 u4_5 v0_32 v2_0 v2_1 v3_1 v3_5 v3_7 v3_8 v3_9 v3_12 v3_13 v3_14 v7_0 uu p1 p2 p)) ∧
  (∀ (w : World) (N t a1 u4_3 u4_5 : Nat) (v0_32 v2_0 v2_1 v3_1 v3_5 v3_7 v3_8 v3_9 v3_12 v3_13 v3_14 v7_0 v7_1 : Value) (uu : Nat) (p1 p2 : Pos) (p : Pos), okR (r_sg2 w N t a1 u4_3 u4_5 v0_32 v2_0 v2_1 v3_1 v3_5 v3_7 v3_8 v3_9 v3_12 v3_13 v3_14 v7_0 v7_1 uu p1 p2 p)) ∧
  (∀ (w : World) (N t a1 u4_3 u4_5 : Nat) (v0_32 v2_0 v2_1 v3_1 v3_5 v3_7 v3_8 v3_9 v3_12 v3_13 v3_14 : Value) (uu : Nat) (p1 p2 : Pos) (p : Pos), okR (r_sgt w N t a1 u4_3 u4_5 v0_32 v2_0 v2_1 v3_1 v3_5 v3_7 v3_8 v3_9 v3_12 v3_13 v3_14 uu p1 p2 p)) ∧
  (∀ (w : World) (N t u4_3 : Nat) (v0_32 v2_0 v3_1 v3_5 v3_7 v3_8 v3_9 v3_11 v3_12 v3_13 v3_14 v4_2 : Value) (uu : Nat) (p1 p2 : Pos) (p : Pos), okR (r_sep w N t u4_3 v0_32 v2_0 v3_1 v3_5 v3_7 v3_8 v3_9 v3_11 v3_12 v3_13 v3_14 v4_2 uu p1 p2 p)) ∧
  (∀ (w : World) (N t u3_23 u4_3 u4_5 : Nat) (v0_32 v2_0 v3_1 v3_5 v3_7 v3_8 v3_9 v3_12 v3_13 v3_14 : Value) (uu : Nat) (p1 p2 : Pos) (p : Pos), okR (r_sea w N t u3_23 u4_3 u4_5 v0_32 v2_0 v3_1 v3_5 v3_7 v3_8 v3_9 v3_12 v3_13 v3_14 uu p1 p2 p)) ∧
  (∀ (w : World) (N t u4_3 u4_5 : Nat) (v0_32 v2_0 v3_1 v3_5 v3_7 v3_8 v3_9 v3_12 v3_13 v3_14 v5_0 : Value) (uu : Nat) (p1 p2 : Pos) (p : Pos), okR (r_seo w N t u4_3 u4_5 v0_32 v2_0 v3_1 v3_5 v3_7 v3_8 v3_9 v3_12 v3_13 v3_14 v5_0 uu p1 p2 p)) ∧
  (∀ (w : World) (N t a1 u4_3 u4_5 : Nat) (v0_32 v2_0 v3_1 v3_5 v3_7 v3_8 v3_9 v3_12 v3_13 v3_14 v7_0 : Value) (uu : Nat) (p1 p2 : Pos) (p : Pos), okR (r_se1 w N t a1 u4_3 u4_5 v0_32 v2_0 v3_1 v3_5 v3_7 v3_8 v3_9 v3_12 v3_13 v3_14 v7_0 uu p1 p2 p)) ∧
  (∀ (w : World) (N t a1 u4_3 u4_5 : Nat) (v0_32 v2_0 v3_1 v3_5 v3_7 v3_8 v3_9 v3_12 v3_13 v3_14 v7_0 v7_1 : Value) (uu : Nat) (p1 p2 : Pos) (p : Pos), okR (r_se2 w N t a1 u4_3 u4_5 v0_32 v2_0 v3_1 v3_5 v3_7 v3_8 v3_9 v3_12 v3_13 v3_14 v7_0 v7_1 uu p1 p2 p)) ∧
  (∀ (w : World) (N t a1 u4_3 u4_5 : Nat) (v0_32 v2_0 v3_1 v3_5 v3_7 v3_8 v3_9 v3_12 v3_13 v3_14 : Value) (uu : Nat) (p1 p2 : Pos) (p : Pos), okR (r_set w N t a1 u4_3 u4_5 v0_32 v2_0 v3_1 v3_5 v3_7 v3_8 v3_9 v3_12 v3_13 v3_14 uu p1 p2 p)) :=
  ⟨fun _ _ _ _ _ _ _ _ _ _ _ => by kernel_rfl,
  fun _ _ _ _ _ _ _ _ _ _ _ _ _ _ _ _ _ _ _ _ _ => by kernel_rfl,
  fun _ _ _ _ _ _ _ _ _ _ _ _ _ _ _ _ _ _ _ _ _ => by kernel_rfl,
  fun _ _ _ _ _ _ _ _ _ _ _ _ _ _ _ _ _ _ _ _ _ => by kernel_rfl,
  fun _ _ _ _ _ _ _ _ _ _ _ _ _ _ _ _ _ _ _ _ _ _ => by kernel_rfl,
  fun _ _ _ _ _ _ _ _ _ _ _ _ _ _ _ _ _ _ _ _ _ _ _ => by kernel_rfl,
  fun _ _ _ _ _ _ _ _ _ _ _ _ _ _ _ _ _ _ _ _ _ => by kernel_rfl,
  fun _ _ _ _ _ _ _ _ _ _ _ _ _ _ _ _ _ _ _ _ => by kernel_rfl,
  fun _ _ _ _ _ _ _ _ _ _ _ _ _ _ _ _ _ _ _ _ => by kernel_rfl,
  fun _ _ _ _ _ _ _ _ _ _ _ _ _ _ _ _ _ _ _ _ => by kernel_rfl,
  fun _ _ _ _ _ _ _ _ _ _ _ _ _ _ _ _ _ _ _ _ _ => by kernel_rfl,
  fun _ _ _ _ _ _ _ _ _ _ _ _ _ _ _ _ _ _ _ _ _ _ => by kernel_rfl,
  fun _ _ _ _ _ _ _ _ _ _ _ _ _ _ _ _ _ _ _ _ => by kernel_rfl⟩
theorem sd {w : World} {t a0 : Nat} {v0_32 v2_0 v3_0 : Value} {uu : Nat}  (ha0 : 1333 ≤ a0 + 1090) (hnd : [1106, 1186, 1221, (a0 + 1090)].Nodup) : CallOK [lawCode] w (kt2 w.params uu) (.call (.ref 459) ⟨[(.ref 1107)], []⟩) (tk t) (tk (t + 12)) [] ([1106, 1186, 1221, (a0 + 1090)].zip [(sh1106 w.params uu v0_32),
    (sh1186 w.params uu (.bool false)),
    (sh1221 w.params uu v2_0 (.ref (a0 + 1090))),
    (ls #[v3_0] 0)]) (.bool false) [] (fun M => [(frm #[(en w.params "conn" (tk (t + 0)) (.ref 1107)), (en w.params "space" (tk (t + 1)) (sv "initial" 297)), (en w.params "place" (tk (t + 4)) (.ref 1187))] 3), ⟨(.type "tuple_iterator"), none, (.fields #[(.ref 89), (iv 1 0)]), #[]⟩]) := by
  have hkb := kb_of w.params uu (l := [1106, 1186, 1221, (a0 + 1090)]) (fa_cons (.inl (by decide)) <| fa_cons (.inl (by decide)) <| fa_cons (.inl (by decide)) <| fa_cons (.inr (by omega)) <| fa_nil)
  exact call_ro (fun N bel p hb => by obtain ⟨p1, p2, rfl⟩ := bel2 hb; exact cs_RS.1 w N t a0 v0_32 v2_0 v3_0 uu p1 p2 p) (by kernel_rfl) hkb hnd rfl (fun _ => rfl) (fun _ => rfl) ⟨_, .head _, by decide⟩
theorem sgp {w : World} {t u4_3 : Nat} {v0_32 v2_0 v2_1 v3_1 v3_5 v3_7 v3_8 v3_9 v3_11 v3_12 v3_13 v3_14 v4_2 : Value} {uu : Nat}  : CallOK [lawCode] w (kt2 w.params uu) (.call (.ref 459) ⟨[(.ref 1107)], []⟩) (tk t) (tk (t + 27)) [] ([1106, 1186, 1221, 1202, 1260].zip [(sh1106 w.params uu v0_32),
    (sh1186 w.params uu (.bool true)),
    (sh1221 w.params uu v2_0 v2_1),
    (sh1202 w.params uu v3_1 v3_5 v3_7 v3_8 v3_9 v3_11 v3_12 v3_13 v3_14),
    (sh1260 w.params uu (iv 2 (tk u4_3)) v4_2)]) (.bool false) [] (fun M => [(frm #[(en w.params "conn" (tk (t + 0)) (.ref 1107)), (en w.params "space" (tk (t + 1)) (sv "handshake" 298)), (en w.params "place" (tk (t + 4)) (.ref 1195))] 3), ⟨(.type "tuple_iterator"), none, (.fields #[(.ref 89), (iv 2 0)]), #[]⟩, (frm #[(en w.params "self" (tk (t + 6)) (.ref 1187))] 1), (frm #[(en w.params "self" (tk (t + 22)) (.ref 1195))] 1)]) := by
  have hkb := kb_of w.params uu (l := [1106, 1186, 1221, 1202, 1260]) (by decide)
  exact call_ro (fun N bel p hb => by obtain ⟨p1, p2, rfl⟩ := bel2 hb; exact cs_RS.2.1 w N t u4_3 v0_32 v2_0 v2_1 v3_1 v3_5 v3_7 v3_8 v3_9 v3_11 v3_12 v3_13 v3_14 v4_2 uu p1 p2 p) (by kernel_rfl) hkb (by decide) rfl (fun _ => rfl) (fun _ => rfl) ⟨_, .head _, by decide⟩
theorem sga {w : World} {t u3_23 u4_3 u4_5 : Nat} {v0_32 v2_0 v2_1 v3_1 v3_5 v3_7 v3_8 v3_9 v3_12 v3_13 v3_14 : Value} {uu : Nat}  : CallOK [lawCode] w (kt2 w.params uu) (.call (.ref 459) ⟨[(.ref 1107)], []⟩) (tk t) (tk (t + 40)) [] ([1106, 1186, 1221, 1202, 1260].zip [(sh1106 w.params uu v0_32),
    (sh1186 w.params uu (.bool true)),
    (sh1221 w.params uu v2_0 v2_1),
    (sh1202 w.params uu v3_1 v3_5 v3_7 v3_8 v3_9 (iv 1000 (tk u3_23)) v3_12 v3_13 v3_14),
    (sh1260 w.params uu (iv 0 (tk u4_3)) (iv 0 (tk u4_5)))]) (.bool false) [] (fun M => [(frm #[(en w.params "conn" (tk (t + 0)) (.ref 1107)), (en w.params "space" (tk (t + 1)) (sv "application" 299)), (en w.params "place" (tk (t + 4)) (.ref 1203))] 3), ⟨(.type "tuple_iterator"), none, (.fields #[(.ref 89), (iv 3 0)]), #[]⟩, (frm #[(en w.params "self" (tk (t + 6)) (.ref 1187))] 1), (frm #[(en w.params "self" (tk (t + 22)) (.ref 1195))] 1), (frm #[(en w.params "self" (tk (t + 38)) (.ref 1203))] 1)]) := by
  have hkb := kb_of w.params uu (l := [1106, 1186, 1221, 1202, 1260]) (by decide)
  exact call_ro (fun N bel p hb => by obtain ⟨p1, p2, rfl⟩ := bel2 hb; exact cs_RS.2.2.1 w N t u3_23 u4_3 u4_5 v0_32 v2_0 v2_1 v3_1 v3_5 v3_7 v3_8 v3_9 v3_12 v3_13 v3_14 uu p1 p2 p) (by kernel_rfl) hkb (by decide) rfl (fun _ => rfl) (fun _ => rfl) ⟨_, .head _, by decide⟩
theorem sgo {w : World} {t u4_3 u4_5 : Nat} {v0_32 v2_0 v2_1 v3_1 v3_5 v3_7 v3_8 v3_9 v3_12 v3_13 v3_14 v5_0 : Value} {uu : Nat}  : CallOK [lawCode] w (kt2 w.params uu) (.call (.ref 459) ⟨[(.ref 1107)], []⟩) (tk t) (tk (t + 47)) [] ([1106, 1186, 1221, 1202, 1260, 1305].zip [(sh1106 w.params uu v0_32),
    (sh1186 w.params uu (.bool true)),
    (sh1221 w.params uu v2_0 v2_1),
    (sh1202 w.params uu v3_1 v3_5 v3_7 v3_8 v3_9 .none v3_12 v3_13 v3_14),
    (sh1260 w.params uu (iv 0 (tk u4_3)) (iv 0 (tk u4_5))),
    (ls #[v5_0] 1)]) (.bool false) [] (fun M => [(frm #[(en w.params "conn" (tk (t + 0)) (.ref 1107)), (en w.params "space" (tk (t + 1)) (sv "application" 299)), (en w.params "place" (tk (t + 4)) (.ref 1203))] 3), ⟨(.type "tuple_iterator"), none, (.fields #[.none, (iv 3 0)]), #[]⟩, (frm #[(en w.params "self" (tk (t + 6)) (.ref 1187))] 1), (frm #[(en w.params "self" (tk (t + 22)) (.ref 1195))] 1), (frm #[(en w.params "self" (tk (t + 38)) (.ref 1203))] 1), (tpO #[] 0), ⟨(.type "StopIteration"), none, (.fields #[(.ref (M + 5)), .none, .none, .none, (.bool false), .none]), #[]⟩]) := by
  have hkb := kb_of w.params uu (l := [1106, 1186, 1221, 1202, 1260, 1305]) (by decide)
  exact call_ro (fun N bel p hb => by obtain ⟨p1, p2, rfl⟩ := bel2 hb; exact cs_RS.2.2.2.1 w N t u4_3 u4_5 v0_32 v2_0 v2_1 v3_1 v3_5 v3_7 v3_8 v3_9 v3_12 v3_13 v3_14 v5_0 uu p1 p2 p) (by kernel_rfl) hkb (by decide) rfl (fun _ => rfl) (fun _ => rfl) ⟨_, .head _, by decide⟩
theorem sg1 {w : World} {t a1 u4_3 u4_5 : Nat} {v0_32 v2_0 v2_1 v3_1 v3_5 v3_7 v3_8 v3_9 v3_12 v3_13 v3_14 v7_0 : Value} {uu : Nat}  (ha1 : 1333 ≤ a1 + 1090) (hnd : [1106, 1186, 1221, 1202, 1260, 1305, 1287, (a1 + 1090)].Nodup) : CallOK [lawCode] w (kt2 w.params uu) (.call (.ref 459) ⟨[(.ref 1107)], []⟩) (tk t) (tk (t + 52)) [] ([1106, 1186, 1221, 1202, 1260, 1305, 1287, (a1 + 1090)].zip [(sh1106 w.params uu v0_32),
    (sh1186 w.params uu (.bool true)),
    (sh1221 w.params uu v2_0 v2_1),
    (sh1202 w.params uu v3_1 v3_5 v3_7 v3_8 v3_9 .none v3_12 v3_13 v3_14),
    (sh1260 w.params uu (iv 0 (tk u4_3)) (iv 0 (tk u4_5))),
    (ls #[] 0),
    (sh1287 w.params uu (.ref (a1 + 1090))),
    (ls #[v7_0] 1)]) (.bool false) [] (fun M => [(frm #[(en w.params "conn" (tk (t + 0)) (.ref 1107)), (en w.params "space" (tk (t + 1)) (sv "application" 299)), (en w.params "place" (tk (t + 4)) (.ref 1203))] 3), ⟨(.type "tuple_iterator"), none, (.fields #[.none, (iv 3 0)]), #[]⟩, (frm #[(en w.params "self" (tk (t + 6)) (.ref 1187))] 1), (frm #[(en w.params "self" (tk (t + 22)) (.ref 1195))] 1), (frm #[(en w.params "self" (tk (t + 38)) (.ref 1203))] 1), (tpO #[] 0), ⟨(.type "StopIteration"), none, (.fields #[(.ref (M + 5)), .none, .none, .none, (.bool false), .none]), #[]⟩]) := by
  have hkb := kb_of w.params uu (l := [1106, 1186, 1221, 1202, 1260, 1305, 1287, (a1 + 1090)]) (fa_cons (.inl (by decide)) <| fa_cons (.inl (by decide)) <| fa_cons (.inl (by decide)) <| fa_cons (.inl (by decide)) <| fa_cons (.inl (by decide)) <| fa_cons (.inl (by decide)) <| fa_cons (.inl (by decide)) <| fa_cons (.inr (by omega)) <| fa_nil)
  exact call_ro (fun N bel p hb => by obtain ⟨p1, p2, rfl⟩ := bel2 hb; exact cs_RS.2.2.2.2.1 w N t a1 u4_3 u4_5 v0_32 v2_0 v2_1 v3_1 v3_5 v3_7 v3_8 v3_9 v3_12 v3_13 v3_14 v7_0 uu p1 p2 p) (by kernel_rfl) hkb hnd rfl (fun _ => rfl) (fun _ => rfl) ⟨_, .head _, by decide⟩
theorem sg2 {w : World} {t a1 u4_3 u4_5 : Nat} {v0_32 v2_0 v2_1 v3_1 v3_5 v3_7 v3_8 v3_9 v3_12 v3_13 v3_14 v7_0 v7_1 : Value} {uu : Nat}  (ha1 : 1333 ≤ a1 + 1090) (hnd : [1106, 1186, 1221, 1202, 1260, 1305, 1287, (a1 + 1090)].Nodup) : CallOK [lawCode] w (kt2 w.params uu) (.call (.ref 459) ⟨[(.ref 1107)], []⟩) (tk t) (tk (t + 52)) [] ([1106, 1186, 1221, 1202, 1260, 1305, 1287, (a1 + 1090)].zip [(sh1106 w.params uu v0_32),
    (sh1186 w.params uu (.bool true)),
    (sh1221 w.params uu v2_0 v2_1),
    (sh1202 w.params uu v3_1 v3_5 v3_7 v3_8 v3_9 .none v3_12 v3_13 v3_14),
    (sh1260 w.params uu (iv 0 (tk u4_3)) (iv 0 (tk u4_5))),
    (ls #[] 0),
    (sh1287 w.params uu (.ref (a1 + 1090))),
    (ls #[v7_0, v7_1] 1)]) (.bool false) [] (fun M => [(frm #[(en w.params "conn" (tk (t + 0)) (.ref 1107)), (en w.params "space" (tk (t + 1)) (sv "application" 299)), (en w.params "place" (tk (t + 4)) (.ref 1203))] 3), ⟨(.type "tuple_iterator"), none, (.fields #[.none, (iv 3 0)]), #[]⟩, (frm #[(en w.params "self" (tk (t + 6)) (.ref 1187))] 1), (frm #[(en w.params "self" (tk (t + 22)) (.ref 1195))] 1), (frm #[(en w.params "self" (tk (t + 38)) (.ref 1203))] 1), (tpO #[] 0), ⟨(.type "StopIteration"), none, (.fields #[(.ref (M + 5)), .none, .none, .none, (.bool false), .none]), #[]⟩]) := by
  have hkb := kb_of w.params uu (l := [1106, 1186, 1221, 1202, 1260, 1305, 1287, (a1 + 1090)]) (fa_cons (.inl (by decide)) <| fa_cons (.inl (by decide)) <| fa_cons (.inl (by decide)) <| fa_cons (.inl (by decide)) <| fa_cons (.inl (by decide)) <| fa_cons (.inl (by decide)) <| fa_cons (.inl (by decide)) <| fa_cons (.inr (by omega)) <| fa_nil)
  exact call_ro (fun N bel p hb => by obtain ⟨p1, p2, rfl⟩ := bel2 hb; exact cs_RS.2.2.2.2.2.1 w N t a1 u4_3 u4_5 v0_32 v2_0 v2_1 v3_1 v3_5 v3_7 v3_8 v3_9 v3_12 v3_13 v3_14 v7_0 v7_1 uu p1 p2 p) (by kernel_rfl) hkb hnd rfl (fun _ => rfl) (fun _ => rfl) ⟨_, .head _, by decide⟩
theorem sgt {w : World} {t a1 u4_3 u4_5 : Nat} {v0_32 v2_0 v2_1 v3_1 v3_5 v3_7 v3_8 v3_9 v3_12 v3_13 v3_14 : Value} {uu : Nat}  (ha1 : 1333 ≤ a1 + 1090) (hnd : [1106, 1186, 1221, 1202, 1260, 1305, 1287, (a1 + 1090)].Nodup) : CallOK [lawCode] w (kt2 w.params uu) (.call (.ref 459) ⟨[(.ref 1107)], []⟩) (tk t) (tk (t + 54)) [] ([1106, 1186, 1221, 1202, 1260, 1305, 1287, (a1 + 1090)].zip [(sh1106 w.params uu v0_32),
    (sh1186 w.params uu (.bool true)),
    (sh1221 w.params uu v2_0 v2_1),
    (sh1202 w.params uu v3_1 v3_5 v3_7 v3_8 v3_9 .none v3_12 v3_13 v3_14),
    (sh1260 w.params uu (iv 0 (tk u4_3)) (iv 0 (tk u4_5))),
    (ls #[] 0),
    (sh1287 w.params uu (.ref (a1 + 1090))),
    (ls #[] 0)]) (.bool true) [] (fun M => [(frm #[(en w.params "conn" (tk (t + 0)) (.ref 1107)), (en w.params "space" (tk (t + 1)) (sv "application" 299)), (en w.params "place" (tk (t + 4)) (.ref 1203))] 3), ⟨(.type "tuple_iterator"), none, (.fields #[.none, (iv 3 0)]), #[]⟩, (frm #[(en w.params "self" (tk (t + 6)) (.ref 1187))] 1), (frm #[(en w.params "self" (tk (t + 22)) (.ref 1195))] 1), (frm #[(en w.params "self" (tk (t + 38)) (.ref 1203))] 1), (tpO #[] 0), ⟨(.type "StopIteration"), none, (.fields #[(.ref (M + 5)), .none, .none, .none, (.bool false), .none]), #[]⟩, (frm #[] 0)]) := by
  have hkb := kb_of w.params uu (l := [1106, 1186, 1221, 1202, 1260, 1305, 1287, (a1 + 1090)]) (fa_cons (.inl (by decide)) <| fa_cons (.inl (by decide)) <| fa_cons (.inl (by decide)) <| fa_cons (.inl (by decide)) <| fa_cons (.inl (by decide)) <| fa_cons (.inl (by decide)) <| fa_cons (.inl (by decide)) <| fa_cons (.inr (by omega)) <| fa_nil)
  exact call_ro (fun N bel p hb => by obtain ⟨p1, p2, rfl⟩ := bel2 hb; exact cs_RS.2.2.2.2.2.2.1 w N t a1 u4_3 u4_5 v0_32 v2_0 v2_1 v3_1 v3_5 v3_7 v3_8 v3_9 v3_12 v3_13 v3_14 uu p1 p2 p) (by kernel_rfl) hkb hnd rfl (fun _ => rfl) (fun _ => rfl) ⟨_, .head _, by decide⟩
theorem sep {w : World} {t u4_3 : Nat} {v0_32 v2_0 v3_1 v3_5 v3_7 v3_8 v3_9 v3_11 v3_12 v3_13 v3_14 v4_2 : Value} {uu : Nat}  : CallOK [lawCode] w (kt2 w.params uu) (.call (.ref 459) ⟨[(.ref 1107)], []⟩) (tk t) (tk (t + 33)) [] ([1106, 1186, 1221, 1202, 1260].zip [(sh1106 w.params uu v0_32),
    (sh1186 w.params uu (.bool false)),
    (sh1221 w.params uu v2_0 (.ref 1224)),
    (sh1202 w.params uu v3_1 v3_5 v3_7 v3_8 v3_9 v3_11 v3_12 v3_13 v3_14),
    (sh1260 w.params uu (iv 2 (tk u4_3)) v4_2)]) (.bool false) [] (fun M => [(frm #[(en w.params "conn" (tk (t + 0)) (.ref 1107)), (en w.params "space" (tk (t + 1)) (sv "handshake" 298)), (en w.params "place" (tk (t + 4)) (.ref 1195))] 3), ⟨(.type "tuple_iterator"), none, (.fields #[(.ref 89), (iv 2 0)]), #[]⟩, (frm #[(en w.params "self" (tk (t + 12)) (.ref 1187))] 1), (frm #[(en w.params "self" (tk (t + 28)) (.ref 1195))] 1)]) := by
  have hkb := kb_of w.params uu (l := [1106, 1186, 1221, 1202, 1260]) (by decide)
  exact call_ro (fun N bel p hb => by obtain ⟨p1, p2, rfl⟩ := bel2 hb; exact cs_RS.2.2.2.2.2.2.2.1 w N t u4_3 v0_32 v2_0 v3_1 v3_5 v3_7 v3_8 v3_9 v3_11 v3_12 v3_13 v3_14 v4_2 uu p1 p2 p) (by kernel_rfl) hkb (by decide) rfl (fun _ => rfl) (fun _ => rfl) ⟨_, .head _, by decide⟩
theorem sea {w : World} {t u3_23 u4_3 u4_5 : Nat} {v0_32 v2_0 v3_1 v3_5 v3_7 v3_8 v3_9 v3_12 v3_13 v3_14 : Value} {uu : Nat}  : CallOK [lawCode] w (kt2 w.params uu) (.call (.ref 459) ⟨[(.ref 1107)], []⟩) (tk t) (tk (t + 46)) [] ([1106, 1186, 1221, 1202, 1260].zip [(sh1106 w.params uu v0_32),
    (sh1186 w.params uu (.bool false)),
    (sh1221 w.params uu v2_0 (.ref 1224)),
    (sh1202 w.params uu v3_1 v3_5 v3_7 v3_8 v3_9 (iv 1000 (tk u3_23)) v3_12 v3_13 v3_14),
    (sh1260 w.params uu (iv 0 (tk u4_3)) (iv 0 (tk u4_5)))]) (.bool false) [] (fun M => [(frm #[(en w.params "conn" (tk (t + 0)) (.ref 1107)), (en w.params "space" (tk (t + 1)) (sv "application" 299)), (en w.params "place" (tk (t + 4)) (.ref 1203))] 3), ⟨(.type "tuple_iterator"), none, (.fields #[(.ref 89), (iv 3 0)]), #[]⟩, (frm #[(en w.params "self" (tk (t + 12)) (.ref 1187))] 1), (frm #[(en w.params "self" (tk (t + 28)) (.ref 1195))] 1), (frm #[(en w.params "self" (tk (t + 44)) (.ref 1203))] 1)]) := by
  have hkb := kb_of w.params uu (l := [1106, 1186, 1221, 1202, 1260]) (by decide)
  exact call_ro (fun N bel p hb => by obtain ⟨p1, p2, rfl⟩ := bel2 hb; exact cs_RS.2.2.2.2.2.2.2.2.1 w N t u3_23 u4_3 u4_5 v0_32 v2_0 v3_1 v3_5 v3_7 v3_8 v3_9 v3_12 v3_13 v3_14 uu p1 p2 p) (by kernel_rfl) hkb (by decide) rfl (fun _ => rfl) (fun _ => rfl) ⟨_, .head _, by decide⟩
theorem seo {w : World} {t u4_3 u4_5 : Nat} {v0_32 v2_0 v3_1 v3_5 v3_7 v3_8 v3_9 v3_12 v3_13 v3_14 v5_0 : Value} {uu : Nat}  : CallOK [lawCode] w (kt2 w.params uu) (.call (.ref 459) ⟨[(.ref 1107)], []⟩) (tk t) (tk (t + 53)) [] ([1106, 1186, 1221, 1202, 1260, 1305].zip [(sh1106 w.params uu v0_32),
    (sh1186 w.params uu (.bool false)),
    (sh1221 w.params uu v2_0 (.ref 1224)),
    (sh1202 w.params uu v3_1 v3_5 v3_7 v3_8 v3_9 .none v3_12 v3_13 v3_14),
    (sh1260 w.params uu (iv 0 (tk u4_3)) (iv 0 (tk u4_5))),
    (ls #[v5_0] 1)]) (.bool false) [] (fun M => [(frm #[(en w.params "conn" (tk (t + 0)) (.ref 1107)), (en w.params "space" (tk (t + 1)) (sv "application" 299)), (en w.params "place" (tk (t + 4)) (.ref 1203))] 3), ⟨(.type "tuple_iterator"), none, (.fields #[.none, (iv 3 0)]), #[]⟩, (frm #[(en w.params "self" (tk (t + 12)) (.ref 1187))] 1), (frm #[(en w.params "self" (tk (t + 28)) (.ref 1195))] 1), (frm #[(en w.params "self" (tk (t + 44)) (.ref 1203))] 1), (tpO #[] 0), ⟨(.type "StopIteration"), none, (.fields #[(.ref (M + 5)), .none, .none, .none, (.bool false), .none]), #[]⟩]) := by
  have hkb := kb_of w.params uu (l := [1106, 1186, 1221, 1202, 1260, 1305]) (by decide)
  exact call_ro (fun N bel p hb => by obtain ⟨p1, p2, rfl⟩ := bel2 hb; exact cs_RS.2.2.2.2.2.2.2.2.2.1 w N t u4_3 u4_5 v0_32 v2_0 v3_1 v3_5 v3_7 v3_8 v3_9 v3_12 v3_13 v3_14 v5_0 uu p1 p2 p) (by kernel_rfl) hkb (by decide) rfl (fun _ => rfl) (fun _ => rfl) ⟨_, .head _, by decide⟩
theorem se1 {w : World} {t a1 u4_3 u4_5 : Nat} {v0_32 v2_0 v3_1 v3_5 v3_7 v3_8 v3_9 v3_12 v3_13 v3_14 v7_0 : Value} {uu : Nat}  (ha1 : 1333 ≤ a1 + 1090) (hnd : [1106, 1186, 1221, 1202, 1260, 1305, 1287, (a1 + 1090)].Nodup) : CallOK [lawCode] w (kt2 w.params uu) (.call (.ref 459) ⟨[(.ref 1107)], []⟩) (tk t) (tk (t + 58)) [] ([1106, 1186, 1221, 1202, 1260, 1305, 1287, (a1 + 1090)].zip [(sh1106 w.params uu v0_32),
    (sh1186 w.params uu (.bool false)),
    (sh1221 w.params uu v2_0 (.ref 1224)),
    (sh1202 w.params uu v3_1 v3_5 v3_7 v3_8 v3_9 .none v3_12 v3_13 v3_14),
    (sh1260 w.params uu (iv 0 (tk u4_3)) (iv 0 (tk u4_5))),
    (ls #[] 0),
    (sh1287 w.params uu (.ref (a1 + 1090))),
    (ls #[v7_0] 1)]) (.bool false) [] (fun M => [(frm #[(en w.params "conn" (tk (t + 0)) (.ref 1107)), (en w.params "space" (tk (t + 1)) (sv "application" 299)), (en w.params "place" (tk (t + 4)) (.ref 1203))] 3), ⟨(.type "tuple_iterator"), none, (.fields #[.none, (iv 3 0)]), #[]⟩, (frm #[(en w.params "self" (tk (t + 12)) (.ref 1187))] 1), (frm #[(en w.params "self" (tk (t + 28)) (.ref 1195))] 1), (frm #[(en w.params "self" (tk (t + 44)) (.ref 1203))] 1), (tpO #[] 0), ⟨(.type "StopIteration"), none, (.fields #[(.ref (M + 5)), .none, .none, .none, (.bool false), .none]), #[]⟩]) := by
  have hkb := kb_of w.params uu (l := [1106, 1186, 1221, 1202, 1260, 1305, 1287, (a1 + 1090)]) (fa_cons (.inl (by decide)) <| fa_cons (.inl (by decide)) <| fa_cons (.inl (by decide)) <| fa_cons (.inl (by decide)) <| fa_cons (.inl (by decide)) <| fa_cons (.inl (by decide)) <| fa_cons (.inl (by decide)) <| fa_cons (.inr (by omega)) <| fa_nil)
  exact call_ro (fun N bel p hb => by obtain ⟨p1, p2, rfl⟩ := bel2 hb; exact cs_RS.2.2.2.2.2.2.2.2.2.2.1 w N t a1 u4_3 u4_5 v0_32 v2_0 v3_1 v3_5 v3_7 v3_8 v3_9 v3_12 v3_13 v3_14 v7_0 uu p1 p2 p) (by kernel_rfl) hkb hnd rfl (fun _ => rfl) (fun _ => rfl) ⟨_, .head _, by decide⟩
theorem se2 {w : World} {t a1 u4_3 u4_5 : Nat} {v0_32 v2_0 v3_1 v3_5 v3_7 v3_8 v3_9 v3_12 v3_13 v3_14 v7_0 v7_1 : Value} {uu : Nat}  (ha1 : 1333 ≤ a1 + 1090) (hnd : [1106, 1186, 1221, 1202, 1260, 1305, 1287, (a1 + 1090)].Nodup) : CallOK [lawCode] w (kt2 w.params uu) (.call (.ref 459) ⟨[(.ref 1107)], []⟩) (tk t) (tk (t + 58)) [] ([1106, 1186, 1221, 1202, 1260, 1305, 1287, (a1 + 1090)].zip [(sh1106 w.params uu v0_32),
    (sh1186 w.params uu (.bool false)),
    (sh1221 w.params uu v2_0 (.ref 1224)),
    (sh1202 w.params uu v3_1 v3_5 v3_7 v3_8 v3_9 .none v3_12 v3_13 v3_14),
    (sh1260 w.params uu (iv 0 (tk u4_3)) (iv 0 (tk u4_5))),
    (ls #[] 0),
    (sh1287 w.params uu (.ref (a1 + 1090))),
    (ls #[v7_0, v7_1] 1)]) (.bool false) [] (fun M => [(frm #[(en w.params "conn" (tk (t + 0)) (.ref 1107)), (en w.params "space" (tk (t + 1)) (sv "application" 299)), (en w.params "place" (tk (t + 4)) (.ref 1203))] 3), ⟨(.type "tuple_iterator"), none, (.fields #[.none, (iv 3 0)]), #[]⟩, (frm #[(en w.params "self" (tk (t + 12)) (.ref 1187))] 1), (frm #[(en w.params "self" (tk (t + 28)) (.ref 1195))] 1), (frm #[(en w.params "self" (tk (t + 44)) (.ref 1203))] 1), (tpO #[] 0), ⟨(.type "StopIteration"), none, (.fields #[(.ref (M + 5)), .none, .none, .none, (.bool false), .none]), #[]⟩]) := by
  have hkb := kb_of w.params uu (l := [1106, 1186, 1221, 1202, 1260, 1305, 1287, (a1 + 1090)]) (fa_cons (.inl (by decide)) <| fa_cons (.inl (by decide)) <| fa_cons (.inl (by decide)) <| fa_cons (.inl (by decide)) <| fa_cons (.inl (by decide)) <| fa_cons (.inl (by decide)) <| fa_cons (.inl (by decide)) <| fa_cons (.inr (by omega)) <| fa_nil)
  exact call_ro (fun N bel p hb => by obtain ⟨p1, p2, rfl⟩ := bel2 hb; exact cs_RS.2.2.2.2.2.2.2.2.2.2.2.1 w N t a1 u4_3 u4_5 v0_32 v2_0 v3_1 v3_5 v3_7 v3_8 v3_9 v3_12 v3_13 v3_14 v7_0 v7_1 uu p1 p2 p) (by kernel_rfl) hkb hnd rfl (fun _ => rfl) (fun _ => rfl) ⟨_, .head _, by decide⟩
theorem set {w : World} {t a1 u4_3 u4_5 : Nat} {v0_32 v2_0 v3_1 v3_5 v3_7 v3_8 v3_9 v3_12 v3_13 v3_14 : Value} {uu : Nat}  (ha1 : 1333 ≤ a1 + 1090) (hnd : [1106, 1186, 1221, 1202, 1260, 1305, 1287, (a1 + 1090)].Nodup) : CallOK [lawCode] w (kt2 w.params uu) (.call (.ref 459) ⟨[(.ref 1107)], []⟩) (tk t) (tk (t + 60)) [] ([1106, 1186, 1221, 1202, 1260, 1305, 1287, (a1 + 1090)].zip [(sh1106 w.params uu v0_32),
    (sh1186 w.params uu (.bool false)),
    (sh1221 w.params uu v2_0 (.ref 1224)),
    (sh1202 w.params uu v3_1 v3_5 v3_7 v3_8 v3_9 .none v3_12 v3_13 v3_14),
    (sh1260 w.params uu (iv 0 (tk u4_3)) (iv 0 (tk u4_5))),
    (ls #[] 0),
    (sh1287 w.params uu (.ref (a1 + 1090))),
    (ls #[] 0)]) (.bool true) [] (fun M => [(frm #[(en w.params "conn" (tk (t + 0)) (.ref 1107)), (en w.params "space" (tk (t + 1)) (sv "application" 299)), (en w.params "place" (tk (t + 4)) (.ref 1203))] 3), ⟨(.type "tuple_iterator"), none, (.fields #[.none, (iv 3 0)]), #[]⟩, (frm #[(en w.params "self" (tk (t + 12)) (.ref 1187))] 1), (frm #[(en w.params "self" (tk (t + 28)) (.ref 1195))] 1), (frm #[(en w.params "self" (tk (t + 44)) (.ref 1203))] 1), (tpO #[] 0), ⟨(.type "StopIteration"), none, (.fields #[(.ref (M + 5)), .none, .none, .none, (.bool false), .none]), #[]⟩, (frm #[] 0)]) := by
  have hkb := kb_of w.params uu (l := [1106, 1186, 1221, 1202, 1260, 1305, 1287, (a1 + 1090)]) (fa_cons (.inl (by decide)) <| fa_cons (.inl (by decide)) <| fa_cons (.inl (by decide)) <| fa_cons (.inl (by decide)) <| fa_cons (.inl (by decide)) <| fa_cons (.inl (by decide)) <| fa_cons (.inl (by decide)) <| fa_cons (.inr (by omega)) <| fa_nil)
  exact call_ro (fun N bel p hb => by obtain ⟨p1, p2, rfl⟩ := bel2 hb; exact cs_RS.2.2.2.2.2.2.2.2.2.2.2.2 w N t a1 u4_3 u4_5 v0_32 v2_0 v3_1 v3_5 v3_7 v3_8 v3_9 v3_12 v3_13 v3_14 uu p1 p2 p) (by kernel_rfl) hkb hnd rfl (fun _ => rfl) (fun _ => rfl) ⟨_, .head _, by decide⟩

end
end Mine
end
section
set_option maxRecDepth 100000
set_option linter.unusedVariables false
open PySem PySem.W PySem.Calls PyProof.Rows
open PySem.Sem (wp)
namespace Mine
noncomputable section
def r_d0P (w : World) (tb ta t cv nn z tz : Nat) (rest : List Value) (uu : Nat) (N : Nat) (p1 p2 : Pos) (p : Pos) : St :=
  runE (VL w (kt2 w.params uu) [1100, 1099] (N + 1090) t [] [⟨none, .call (.builtin "len") ⟨[.ref 1099], []⟩, 8, 1, 2, [(1, (ls (Array.mk ((.int (Int.ofNat z) tz) :: rest)) cv))], .int (Int.ofNat nn) (tk (t + 9)), [], []⟩, ⟨none, .call (.builtin "int.__le__") ⟨[.int (Int.ofNat 1) (tk (t + 4)), .int (Int.ofNat nn) (tk (t + 9))], []⟩, 10, 1, 0, [], (.bool true), [], []⟩] [(lawCode, p1), (cc, p2)]) 140 [(0, (ls #[(.ref 1099), (iv 1 (tk (t + 4)))] 0)), (1, (ls (Array.mk ((.int (Int.ofNat z) tz) :: rest)) cv)), (2, (frm #[(en w.params "box" (tk (t + 0)) (.ref 1100)), (en w.params "many" (tk (t + 1)) (iv 2 (tk ta)))] 2))] (.ret (.int (Int.fmod (Int.ofNat z) (Int.ofNat 2)) (tk (t + 14)))) 1 15 (.call (.ref 1083) ⟨[.ref 1100, .int 2 (tk ta)], []⟩) p [] (DD (.call (.ref 1083) ⟨[.ref 1100, .int 2 (tk ta)], []⟩)) (mkT [(box 0 tb), (ls (Array.mk ((.int (Int.ofNat z) tz) :: rest)) cv)] 0 .nil) 0 0 0 (dec [0x42212224111a1a22200ca22122241122122242222122412212224144144111, 0x141113313331221222]) .nil
def r_d0M (w : World) (tb ta t cv nn z tz : Nat) (rest : List Value) (uu : Nat) (N : Nat) (p1 p2 : Pos) (p : Pos) : St :=
  runE (VL w (kt2 w.params uu) [1100, 1099] (N + 1090) t [] [⟨none, .call (.builtin "len") ⟨[.ref 1099], []⟩, 8, 1, 2, [(1, (ls (Array.mk ((.int (Int.negSucc (Nat.succ z)) tz) :: rest)) cv))], .int (Int.ofNat nn) (tk (t + 9)), [], []⟩, ⟨none, .call (.builtin "int.__le__") ⟨[.int (Int.ofNat 1) (tk (t + 4)), .int (Int.ofNat nn) (tk (t + 9))], []⟩, 10, 1, 0, [], (.bool true), [], []⟩] [(lawCode, p1), (cc, p2)]) 141 [(0, (ls #[(.ref 1099), (iv 1 (tk (t + 4)))] 0)), (1, (ls (Array.mk ((.int (Int.negSucc (Nat.succ z)) tz) :: rest)) cv)), (2, (frm #[(en w.params "box" (tk (t + 0)) (.ref 1100)), (en w.params "many" (tk (t + 1)) (iv 2 (tk ta)))] 2))] (.ret (.int (Int.fmod (-(Int.negSucc (Nat.succ z))) (Int.ofNat 2)) (tk (t + 15)))) 1 16 (.call (.ref 1083) ⟨[.ref 1100, .int 2 (tk ta)], []⟩) p [] (DD (.call (.ref 1083) ⟨[.ref 1100, .int 2 (tk ta)], []⟩)) (mkT [(box 0 tb), (ls (Array.mk ((.int (Int.negSucc (Nat.succ z)) tz) :: rest)) cv)] 0 .nil) 0 0 0 (dec [0x42212224111a1a22200ca22122241122122242222122412212224144144111, 0x141113313331221222]) .nil
def r_d0E (w : World) (tb ta t cv nn z tz : Nat) (rest : List Value) (uu : Nat) (N : Nat) (p1 p2 : Pos) (p : Pos) : St :=
  runE (VL w (kt2 w.params uu) [1100, 1099] (N + 1090) t [] [⟨none, .call (.builtin "len") ⟨[.ref 1099], []⟩, 8, 1, 2, [(1, (ls (Array.mk ((.int (Int.negSucc 0) tz) :: rest)) cv))], .int (Int.ofNat nn) (tk (t + 9)), [], []⟩, ⟨none, .call (.builtin "int.__le__") ⟨[.int (Int.ofNat 1) (tk (t + 4)), .int (Int.ofNat nn) (tk (t + 9))], []⟩, 10, 1, 0, [], (.bool true), [], []⟩] [(lawCode, p1), (cc, p2)]) 141 [(0, (ls #[(.ref 1099), (iv 1 (tk (t + 4)))] 0)), (1, (ls (Array.mk ((.int (Int.negSucc 0) tz) :: rest)) cv)), (2, (frm #[(en w.params "box" (tk (t + 0)) (.ref 1100)), (en w.params "many" (tk (t + 1)) (iv 2 (tk ta)))] 2))] (.ret (.int (Int.fmod (-(Int.negSucc 0)) (Int.ofNat 2)) (tk (t + 15)))) 1 16 (.call (.ref 1083) ⟨[.ref 1100, .int 2 (tk ta)], []⟩) p [] (DD (.call (.ref 1083) ⟨[.ref 1100, .int 2 (tk ta)], []⟩)) (mkT [(box 0 tb), (ls (Array.mk ((.int (Int.negSucc 0) tz) :: rest)) cv)] 0 .nil) 0 0 0 (dec [0x42212224111a1a22200ca22122241122122242222122412212224144144111, 0x141113313331221222]) .nil
def r_d0O (w : World) (tb ta t cv nn : Nat) (xs : Array Value) (uu : Nat) (N : Nat) (p1 p2 : Pos) (p : Pos) : St :=
  runE (VL w (kt2 w.params uu) [1100, 1099] (N + 1090) t [] [⟨none, .call (.builtin "len") ⟨[.ref 1099], []⟩, 8, 1, 2, [(1, (ls xs cv))], .int (Int.ofNat nn) (tk (t + 9)), [], []⟩, ⟨none, .call (.builtin "int.__le__") ⟨[.int (Int.ofNat 1) (tk (t + 4)), .int (Int.ofNat nn) (tk (t + 9))], []⟩, 10, 1, 0, [], (.bool false), [], []⟩] [(lawCode, p1), (cc, p2)]) 129 [(0, (ls #[(.ref 1099), (iv 1 (tk (t + 4)))] 0)), (1, (ls xs cv)), (2, (frm #[(en w.params "box" (tk (t + 0)) (.ref 1100)), (en w.params "many" (tk (t + 1)) (iv 2 (tk ta)))] 2))] (.ret (iv 1 (tk (t + 17)))) 1 18 (.call (.ref 1083) ⟨[.ref 1100, .int 2 (tk ta)], []⟩) p [] (DD (.call (.ref 1083) ⟨[.ref 1100, .int 2 (tk ta)], []⟩)) (mkT [(box 0 tb), (ls xs cv)] 0 .nil) 0 0 0 (dec [0x24122122241a1a22200ca22122241122122242222122412212224144144111, 0x141122122]) .nil
def r_d1P (w : World) (tb ta t cv nn z tz : Nat) (y0 : Value) (rest : List Value) (uu : Nat) (N : Nat) (it ac : Value) (la : Nat) (p0 p1 p2 : Pos) (p : Pos) : St :=
  runE (VL w (kt2 w.params uu) [1100, 1099] (N + 1090) t [] [⟨none, .call (.builtin "len") ⟨[.ref 1099], []⟩, 8, 1, 2, [(1, (ls (Array.mk (y0 :: (.int (Int.ofNat z) tz) :: rest)) cv))], .int (Int.ofNat nn) (tk (t + 9)), [], []⟩, ⟨none, .call (.builtin "int.__le__") ⟨[.int (Int.ofNat 2) (tk (t + 4)), .int (Int.ofNat nn) (tk (t + 9))], []⟩, 10, 1, 0, [], (.bool true), [], []⟩] [(compC it ac la, p0), (lawCode, p1), (cc, p2)]) 140 [(0, (ls #[(.ref 1099), (iv 2 (tk (t + 4)))] 0)), (1, (ls (Array.mk (y0 :: (.int (Int.ofNat z) tz) :: rest)) cv)), (2, (frm #[(en w.params "box" (tk (t + 0)) (.ref 1100)), (en w.params "many" (tk (t + 1)) (iv 2 (tk ta)))] 2))] (.ret (.int (Int.fmod (Int.ofNat z) (Int.ofNat 2)) (tk (t + 14)))) 1 15 (.call (.ref 1083) ⟨[.ref 1100, .int 2 (tk ta)], []⟩) p [] (DD (.call (.ref 1083) ⟨[.ref 1100, .int 2 (tk ta)], []⟩)) (mkT [(box 1 tb), (ls (Array.mk (y0 :: (.int (Int.ofNat z) tz) :: rest)) cv)] 0 .nil) 0 0 0 (dec [0x42212224111a1a22200ca22122241122122242222122412212224144144111, 0x141113313331221222]) .nil
def r_d1M (w : World) (tb ta t cv nn z tz : Nat) (y0 : Value) (rest : List Value) (uu : Nat) (N : Nat) (it ac : Value) (la : Nat) (p0 p1 p2 : Pos) (p : Pos) : St :=
  runE (VL w (kt2 w.params uu) [1100, 1099] (N + 1090) t [] [⟨none, .call (.builtin "len") ⟨[.ref 1099], []⟩, 8, 1, 2, [(1, (ls (Array.mk (y0 :: (.int (Int.negSucc (Nat.succ z)) tz) :: rest)) cv))], .int (Int.ofNat nn) (tk (t + 9)), [], []⟩, ⟨none, .call (.builtin "int.__le__") ⟨[.int (Int.ofNat 2) (tk (t + 4)), .int (Int.ofNat nn) (tk (t + 9))], []⟩, 10, 1, 0, [], (.bool true), [], []⟩] [(compC it ac la, p0), (lawCode, p1), (cc, p2)]) 141 [(0, (ls #[(.ref 1099), (iv 2 (tk (t + 4)))] 0)), (1, (ls (Array.mk (y0 :: (.int (Int.negSucc (Nat.succ z)) tz) :: rest)) cv)), (2, (frm #[(en w.params "box" (tk (t + 0)) (.ref 1100)), (en w.params "many" (tk (t + 1)) (iv 2 (tk ta)))] 2))] (.ret (.int (Int.fmod (-(Int.negSucc (Nat.succ z))) (Int.ofNat 2)) (tk (t + 15)))) 1 16 (.call (.ref 1083) ⟨[.ref 1100, .int 2 (tk ta)], []⟩) p [] (DD (.call (.ref 1083) ⟨[.ref 1100, .int 2 (tk ta)], []⟩)) (mkT [(box 1 tb), (ls (Array.mk (y0 :: (.int (Int.negSucc (Nat.succ z)) tz) :: rest)) cv)] 0 .nil) 0 0 0 (dec [0x42212224111a1a22200ca22122241122122242222122412212224144144111, 0x141113313331221222]) .nil
def r_d1E (w : World) (tb ta t cv nn z tz : Nat) (y0 : Value) (rest : List Value) (uu : Nat) (N : Nat) (it ac : Value) (la : Nat) (p0 p1 p2 : Pos) (p : Pos) : St :=
  runE (VL w (kt2 w.params uu) [1100, 1099] (N + 1090) t [] [⟨none, .call (.builtin "len") ⟨[.ref 1099], []⟩, 8, 1, 2, [(1, (ls (Array.mk (y0 :: (.int (Int.negSucc 0) tz) :: rest)) cv))], .int (Int.ofNat nn) (tk (t + 9)), [], []⟩, ⟨none, .call (.builtin "int.__le__") ⟨[.int (Int.ofNat 2) (tk (t + 4)), .int (Int.ofNat nn) (tk (t + 9))], []⟩, 10, 1, 0, [], (.bool true), [], []⟩] [(compC it ac la, p0), (lawCode, p1), (cc, p2)]) 141 [(0, (ls #[(.ref 1099), (iv 2 (tk (t + 4)))] 0)), (1, (ls (Array.mk (y0 :: (.int (Int.negSucc 0) tz) :: rest)) cv)), (2, (frm #[(en w.params "box" (tk (t + 0)) (.ref 1100)), (en w.params "many" (tk (t + 1)) (iv 2 (tk ta)))] 2))] (.ret (.int (Int.fmod (-(Int.negSucc 0)) (Int.ofNat 2)) (tk (t + 15)))) 1 16 (.call (.ref 1083) ⟨[.ref 1100, .int 2 (tk ta)], []⟩) p [] (DD (.call (.ref 1083) ⟨[.ref 1100, .int 2 (tk ta)], []⟩)) (mkT [(box 1 tb), (ls (Array.mk (y0 :: (.int (Int.negSucc 0) tz) :: rest)) cv)] 0 .nil) 0 0 0 (dec [0x42212224111a1a22200ca22122241122122242222122412212224144144111, 0x141113313331221222]) .nil
def r_d1O (w : World) (tb ta t cv nn : Nat) (xs : Array Value) (uu : Nat) (N : Nat) (it ac : Value) (la : Nat) (p0 p1 p2 : Pos) (p : Pos) : St :=
  runE (VL w (kt2 w.params uu) [1100, 1099] (N + 1090) t [] [⟨none, .call (.builtin "len") ⟨[.ref 1099], []⟩, 8, 1, 2, [(1, (ls xs cv))], .int (Int.ofNat nn) (tk (t + 9)), [], []⟩, ⟨none, .call (.builtin "int.__le__") ⟨[.int (Int.ofNat 2) (tk (t + 4)), .int (Int.ofNat nn) (tk (t + 9))], []⟩, 10, 1, 0, [], (.bool false), [], []⟩] [(compC it ac la, p0), (lawCode, p1), (cc, p2)]) 129 [(0, (ls #[(.ref 1099), (iv 2 (tk (t + 4)))] 0)), (1, (ls xs cv)), (2, (frm #[(en w.params "box" (tk (t + 0)) (.ref 1100)), (en w.params "many" (tk (t + 1)) (iv 2 (tk ta)))] 2))] (.ret (iv 0 (tk (t + 17)))) 1 18 (.call (.ref 1083) ⟨[.ref 1100, .int 2 (tk ta)], []⟩) p [] (DD (.call (.ref 1083) ⟨[.ref 1100, .int 2 (tk ta)], []⟩)) (mkT [(box 1 tb), (ls xs cv)] 0 .nil) 0 0 0 (dec [0x24122122241a1a22200ca22122241122122242222122412212224144144111, 0x141122122]) .nil
def r_d2P (w : World) (tb ta t cv nn z tz : Nat) (y0 y1 : Value) (rest : List Value) (uu : Nat) (N : Nat) (it ac : Value) (la : Nat) (p0 p1 p2 : Pos) (p : Pos) : St :=
  runE (VL w (kt2 w.params uu) [1100, 1099] (N + 1090) t [] [⟨none, .call (.builtin "len") ⟨[.ref 1099], []⟩, 8, 1, 2, [(1, (ls (Array.mk (y0 :: y1 :: (.int (Int.ofNat z) tz) :: rest)) cv))], .int (Int.ofNat nn) (tk (t + 9)), [], []⟩, ⟨none, .call (.builtin "int.__le__") ⟨[.int (Int.ofNat 3) (tk (t + 4)), .int (Int.ofNat nn) (tk (t + 9))], []⟩, 10, 1, 0, [], (.bool true), [], []⟩] [(compC it ac la, p0), (lawCode, p1), (cc, p2)]) 140 [(0, (ls #[(.ref 1099), (iv 3 (tk (t + 4)))] 0)), (1, (ls (Array.mk (y0 :: y1 :: (.int (Int.ofNat z) tz) :: rest)) cv)), (2, (frm #[(en w.params "box" (tk (t + 0)) (.ref 1100)), (en w.params "many" (tk (t + 1)) (iv 2 (tk ta)))] 2))] (.ret (.int (Int.fmod (Int.ofNat z) (Int.ofNat 2)) (tk (t + 14)))) 1 15 (.call (.ref 1083) ⟨[.ref 1100, .int 2 (tk ta)], []⟩) p [] (DD (.call (.ref 1083) ⟨[.ref 1100, .int 2 (tk ta)], []⟩)) (mkT [(box 2 tb), (ls (Array.mk (y0 :: y1 :: (.int (Int.ofNat z) tz) :: rest)) cv)] 0 .nil) 0 0 0 (dec [0x42212224111a1a22200ca22122241122122242222122412212224144144111, 0x141113313331221222]) .nil
def r_d2M (w : World) (tb ta t cv nn z tz : Nat) (y0 y1 : Value) (rest : List Value) (uu : Nat) (N : Nat) (it ac : Value) (la : Nat) (p0 p1 p2 : Pos) (p : Pos) : St :=
  runE (VL w (kt2 w.params uu) [1100, 1099] (N + 1090) t [] [⟨none, .call (.builtin "len") ⟨[.ref 1099], []⟩, 8, 1, 2, [(1, (ls (Array.mk (y0 :: y1 :: (.int (Int.negSucc (Nat.succ z)) tz) :: rest)) cv))], .int (Int.ofNat nn) (tk (t + 9)), [], []⟩, ⟨none, .call (.builtin "int.__le__") ⟨[.int (Int.ofNat 3) (tk (t + 4)), .int (Int.ofNat nn) (tk (t + 9))], []⟩, 10, 1, 0, [], (.bool true), [], []⟩] [(compC it ac la, p0), (lawCode, p1), (cc, p2)]) 141 [(0, (ls #[(.ref 1099), (iv 3 (tk (t + 4)))] 0)), (1, (ls (Array.mk (y0 :: y1 :: (.int (Int.negSucc (Nat.succ z)) tz) :: rest)) cv)), (2, (frm #[(en w.params "box" (tk (t + 0)) (.ref 1100)), (en w.params "many" (tk (t + 1)) (iv 2 (tk ta)))] 2))] (.ret (.int (Int.fmod (-(Int.negSucc (Nat.succ z))) (Int.ofNat 2)) (tk (t + 15)))) 1 16 (.call (.ref 1083) ⟨[.ref 1100, .int 2 (tk ta)], []⟩) p [] (DD (.call (.ref 1083) ⟨[.ref 1100, .int 2 (tk ta)], []⟩)) (mkT [(box 2 tb), (ls (Array.mk (y0 :: y1 :: (.int (Int.negSucc (Nat.succ z)) tz) :: rest)) cv)] 0 .nil) 0 0 0 (dec [0x42212224111a1a22200ca22122241122122242222122412212224144144111, 0x141113313331221222]) .nil
def r_d2E (w : World) (tb ta t cv nn z tz : Nat) (y0 y1 : Value) (rest : List Value) (uu : Nat) (N : Nat) (it ac : Value) (la : Nat) (p0 p1 p2 : Pos) (p : Pos) : St :=
  runE (VL w (kt2 w.params uu) [1100, 1099] (N + 1090) t [] [⟨none, .call (.builtin "len") ⟨[.ref 1099], []⟩, 8, 1, 2, [(1, (ls (Array.mk (y0 :: y1 :: (.int (Int.negSucc 0) tz) :: rest)) cv))], .int (Int.ofNat nn) (tk (t + 9)), [], []⟩, ⟨none, .call (.builtin "int.__le__") ⟨[.int (Int.ofNat 3) (tk (t + 4)), .int (Int.ofNat nn) (tk (t + 9))], []⟩, 10, 1, 0, [], (.bool true), [], []⟩] [(compC it ac la, p0), (lawCode, p1), (cc, p2)]) 141 [(0, (ls #[(.ref 1099), (iv 3 (tk (t + 4)))] 0)), (1, (ls (Array.mk (y0 :: y1 :: (.int (Int.negSucc 0) tz) :: rest)) cv)), (2, (frm #[(en w.params "box" (tk (t + 0)) (.ref 1100)), (en w.params "many" (tk (t + 1)) (iv 2 (tk ta)))] 2))] (.ret (.int (Int.fmod (-(Int.negSucc 0)) (Int.ofNat 2)) (tk (t + 15)))) 1 16 (.call (.ref 1083) ⟨[.ref 1100, .int 2 (tk ta)], []⟩) p [] (DD (.call (.ref 1083) ⟨[.ref 1100, .int 2 (tk ta)], []⟩)) (mkT [(box 2 tb), (ls (Array.mk (y0 :: y1 :: (.int (Int.negSucc 0) tz) :: rest)) cv)] 0 .nil) 0 0 0 (dec [0x42212224111a1a22200ca22122241122122242222122412212224144144111, 0x141113313331221222]) .nil
def r_d2O (w : World) (tb ta t cv nn : Nat) (xs : Array Value) (uu : Nat) (N : Nat) (it ac : Value) (la : Nat) (p0 p1 p2 : Pos) (p : Pos) : St :=
  runE (VL w (kt2 w.params uu) [1100, 1099] (N + 1090) t [] [⟨none, .call (.builtin "len") ⟨[.ref 1099], []⟩, 8, 1, 2, [(1, (ls xs cv))], .int (Int.ofNat nn) (tk (t + 9)), [], []⟩, ⟨none, .call (.builtin "int.__le__") ⟨[.int (Int.ofNat 3) (tk (t + 4)), .int (Int.ofNat nn) (tk (t + 9))], []⟩, 10, 1, 0, [], (.bool false), [], []⟩] [(compC it ac la, p0), (lawCode, p1), (cc, p2)]) 129 [(0, (ls #[(.ref 1099), (iv 3 (tk (t + 4)))] 0)), (1, (ls xs cv)), (2, (frm #[(en w.params "box" (tk (t + 0)) (.ref 1100)), (en w.params "many" (tk (t + 1)) (iv 2 (tk ta)))] 2))] (.ret (iv 1 (tk (t + 17)))) 1 18 (.call (.ref 1083) ⟨[.ref 1100, .int 2 (tk ta)], []⟩) p [] (DD (.call (.ref 1083) ⟨[.ref 1100, .int 2 (tk ta)], []⟩)) (mkT [(box 2 tb), (ls xs cv)] 0 .nil) 0 0 0 (dec [0x24122122241a1a22200ca22122241122122242222122412212224144144111, 0x141122122]) .nil
def r_d3P (w : World) (tb ta t cv nn z tz : Nat) (y0 y1 y2 : Value) (rest : List Value) (uu : Nat) (N : Nat) (p1 p2 : Pos) (p : Pos) : St :=
  runE (VL w (kt2 w.params uu) [1100, 1099] (N + 1090) t [] [⟨none, .call (.builtin "len") ⟨[.ref 1099], []⟩, 8, 1, 2, [(1, (ls (Array.mk (y0 :: y1 :: y2 :: (.int (Int.ofNat z) tz) :: rest)) cv))], .int (Int.ofNat nn) (tk (t + 9)), [], []⟩, ⟨none, .call (.builtin "int.__le__") ⟨[.int (Int.ofNat 4) (tk (t + 4)), .int (Int.ofNat nn) (tk (t + 9))], []⟩, 10, 1, 0, [], (.bool true), [], []⟩] [(lawCode, p1), (cc, p2)]) 140 [(0, (ls #[(.ref 1099), (iv 4 (tk (t + 4)))] 0)), (1, (ls (Array.mk (y0 :: y1 :: y2 :: (.int (Int.ofNat z) tz) :: rest)) cv)), (2, (frm #[(en w.params "box" (tk (t + 0)) (.ref 1100)), (en w.params "many" (tk (t + 1)) (iv 3 (tk ta)))] 2))] (.ret (.int (Int.fmod (Int.ofNat z) (Int.ofNat 3)) (tk (t + 14)))) 1 15 (.call (.ref 1083) ⟨[.ref 1100, .int 3 (tk ta)], []⟩) p [] (DD (.call (.ref 1083) ⟨[.ref 1100, .int 3 (tk ta)], []⟩)) (mkT [(box 3 tb), (ls (Array.mk (y0 :: y1 :: y2 :: (.int (Int.ofNat z) tz) :: rest)) cv)] 0 .nil) 0 0 0 (dec [0x42212224111a1a22200ca22122241122122242222122412212224144144111, 0x141113313331221222]) .nil
def r_d3M (w : World) (tb ta t cv nn z tz : Nat) (y0 y1 y2 : Value) (rest : List Value) (uu : Nat) (N : Nat) (p1 p2 : Pos) (p : Pos) : St :=
  runE (VL w (kt2 w.params uu) [1100, 1099] (N + 1090) t [] [⟨none, .call (.builtin "len") ⟨[.ref 1099], []⟩, 8, 1, 2, [(1, (ls (Array.mk (y0 :: y1 :: y2 :: (.int (Int.negSucc (Nat.succ z)) tz) :: rest)) cv))], .int (Int.ofNat nn) (tk (t + 9)), [], []⟩, ⟨none, .call (.builtin "int.__le__") ⟨[.int (Int.ofNat 4) (tk (t + 4)), .int (Int.ofNat nn) (tk (t + 9))], []⟩, 10, 1, 0, [], (.bool true), [], []⟩] [(lawCode, p1), (cc, p2)]) 141 [(0, (ls #[(.ref 1099), (iv 4 (tk (t + 4)))] 0)), (1, (ls (Array.mk (y0 :: y1 :: y2 :: (.int (Int.negSucc (Nat.succ z)) tz) :: rest)) cv)), (2, (frm #[(en w.params "box" (tk (t + 0)) (.ref 1100)), (en w.params "many" (tk (t + 1)) (iv 3 (tk ta)))] 2))] (.ret (.int (Int.fmod (-(Int.negSucc (Nat.succ z))) (Int.ofNat 3)) (tk (t + 15)))) 1 16 (.call (.ref 1083) ⟨[.ref 1100, .int 3 (tk ta)], []⟩) p [] (DD (.call (.ref 1083) ⟨[.ref 1100, .int 3 (tk ta)], []⟩)) (mkT [(box 3 tb), (ls (Array.mk (y0 :: y1 :: y2 :: (.int (Int.negSucc (Nat.succ z)) tz) :: rest)) cv)] 0 .nil) 0 0 0 (dec [0x42212224111a1a22200ca22122241122122242222122412212224144144111, 0x141113313331221222]) .nil
def r_d3E (w : World) (tb ta t cv nn z tz : Nat) (y0 y1 y2 : Value) (rest : List Value) (uu : Nat) (N : Nat) (p1 p2 : Pos) (p : Pos) : St :=
  runE (VL w (kt2 w.params uu) [1100, 1099] (N + 1090) t [] [⟨none, .call (.builtin "len") ⟨[.ref 1099], []⟩, 8, 1, 2, [(1, (ls (Array.mk (y0 :: y1 :: y2 :: (.int (Int.negSucc 0) tz) :: rest)) cv))], .int (Int.ofNat nn) (tk (t + 9)), [], []⟩, ⟨none, .call (.builtin "int.__le__") ⟨[.int (Int.ofNat 4) (tk (t + 4)), .int (Int.ofNat nn) (tk (t + 9))], []⟩, 10, 1, 0, [], (.bool true), [], []⟩] [(lawCode, p1), (cc, p2)]) 141 [(0, (ls #[(.ref 1099), (iv 4 (tk (t + 4)))] 0)), (1, (ls (Array.mk (y0 :: y1 :: y2 :: (.int (Int.negSucc 0) tz) :: rest)) cv)), (2, (frm #[(en w.params "box" (tk (t + 0)) (.ref 1100)), (en w.params "many" (tk (t + 1)) (iv 3 (tk ta)))] 2))] (.ret (.int (Int.fmod (-(Int.negSucc 0)) (Int.ofNat 3)) (tk (t + 15)))) 1 16 (.call (.ref 1083) ⟨[.ref 1100, .int 3 (tk ta)], []⟩) p [] (DD (.call (.ref 1083) ⟨[.ref 1100, .int 3 (tk ta)], []⟩)) (mkT [(box 3 tb), (ls (Array.mk (y0 :: y1 :: y2 :: (.int (Int.negSucc 0) tz) :: rest)) cv)] 0 .nil) 0 0 0 (dec [0x42212224111a1a22200ca22122241122122242222122412212224144144111, 0x141113313331221222]) .nil
def r_d3O (w : World) (tb ta t cv nn : Nat) (xs : Array Value) (uu : Nat) (N : Nat) (p1 p2 : Pos) (p : Pos) : St :=
  runE (VL w (kt2 w.params uu) [1100, 1099] (N + 1090) t [] [⟨none, .call (.builtin "len") ⟨[.ref 1099], []⟩, 8, 1, 2, [(1, (ls xs cv))], .int (Int.ofNat nn) (tk (t + 9)), [], []⟩, ⟨none, .call (.builtin "int.__le__") ⟨[.int (Int.ofNat 4) (tk (t + 4)), .int (Int.ofNat nn) (tk (t + 9))], []⟩, 10, 1, 0, [], (.bool false), [], []⟩] [(lawCode, p1), (cc, p2)]) 129 [(0, (ls #[(.ref 1099), (iv 4 (tk (t + 4)))] 0)), (1, (ls xs cv)), (2, (frm #[(en w.params "box" (tk (t + 0)) (.ref 1100)), (en w.params "many" (tk (t + 1)) (iv 3 (tk ta)))] 2))] (.ret (iv 2 (tk (t + 17)))) 1 18 (.call (.ref 1083) ⟨[.ref 1100, .int 3 (tk ta)], []⟩) p [] (DD (.call (.ref 1083) ⟨[.ref 1100, .int 3 (tk ta)], []⟩)) (mkT [(box 3 tb), (ls xs cv)] 0 .nil) 0 0 0 (dec [0x24122122241a1a22200ca22122241122122242222122412212224144144111, 0x141122122]) .nil
def r_d4P (w : World) (tb ta t cv nn z tz : Nat) (y0 y1 y2 y3 : Value) (rest : List Value) (uu : Nat) (N : Nat) (p1 p2 : Pos) (p : Pos) : St :=
  runE (VL w (kt2 w.params uu) [1100, 1099] (N + 1090) t [] [⟨none, .call (.builtin "len") ⟨[.ref 1099], []⟩, 8, 1, 2, [(1, (ls (Array.mk (y0 :: y1 :: y2 :: y3 :: (.int (Int.ofNat z) tz) :: rest)) cv))], .int (Int.ofNat nn) (tk (t + 9)), [], []⟩, ⟨none, .call (.builtin "int.__le__") ⟨[.int (Int.ofNat 5) (tk (t + 4)), .int (Int.ofNat nn) (tk (t + 9))], []⟩, 10, 1, 0, [], (.bool true), [], []⟩] [(lawCode, p1), (cc, p2)]) 140 [(0, (ls #[(.ref 1099), (iv 5 (tk (t + 4)))] 0)), (1, (ls (Array.mk (y0 :: y1 :: y2 :: y3 :: (.int (Int.ofNat z) tz) :: rest)) cv)), (2, (frm #[(en w.params "box" (tk (t + 0)) (.ref 1100)), (en w.params "many" (tk (t + 1)) (iv 3 (tk ta)))] 2))] (.ret (.int (Int.fmod (Int.ofNat z) (Int.ofNat 3)) (tk (t + 14)))) 1 15 (.call (.ref 1083) ⟨[.ref 1100, .int 3 (tk ta)], []⟩) p [] (DD (.call (.ref 1083) ⟨[.ref 1100, .int 3 (tk ta)], []⟩)) (mkT [(box 4 tb), (ls (Array.mk (y0 :: y1 :: y2 :: y3 :: (.int (Int.ofNat z) tz) :: rest)) cv)] 0 .nil) 0 0 0 (dec [0x42212224111a1a22200ca22122241122122242222122412212224144144111, 0x141113313331221222]) .nil
def r_d4M (w : World) (tb ta t cv nn z tz : Nat) (y0 y1 y2 y3 : Value) (rest : List Value) (uu : Nat) (N : Nat) (p1 p2 : Pos) (p : Pos) : St :=
  runE (VL w (kt2 w.params uu) [1100, 1099] (N + 1090) t [] [⟨none, .call (.builtin "len") ⟨[.ref 1099], []⟩, 8, 1, 2, [(1, (ls (Array.mk (y0 :: y1 :: y2 :: y3 :: (.int (Int.negSucc (Nat.succ z)) tz) :: rest)) cv))], .int (Int.ofNat nn) (tk (t + 9)), [], []⟩, ⟨none, .call (.builtin "int.__le__") ⟨[.int (Int.ofNat 5) (tk (t + 4)), .int (Int.ofNat nn) (tk (t + 9))], []⟩, 10, 1, 0, [], (.bool true), [], []⟩] [(lawCode, p1), (cc, p2)]) 141 [(0, (ls #[(.ref 1099), (iv 5 (tk (t + 4)))] 0)), (1, (ls (Array.mk (y0 :: y1 :: y2 :: y3 :: (.int (Int.negSucc (Nat.succ z)) tz) :: rest)) cv)), (2, (frm #[(en w.params "box" (tk (t + 0)) (.ref 1100)), (en w.params "many" (tk (t + 1)) (iv 3 (tk ta)))] 2))] (.ret (.int (Int.fmod (-(Int.negSucc (Nat.succ z))) (Int.ofNat 3)) (tk (t + 15)))) 1 16 (.call (.ref 1083) ⟨[.ref 1100, .int 3 (tk ta)], []⟩) p [] (DD (.call (.ref 1083) ⟨[.ref 1100, .int 3 (tk ta)], []⟩)) (mkT [(box 4 tb), (ls (Array.mk (y0 :: y1 :: y2 :: y3 :: (.int (Int.negSucc (Nat.succ z)) tz) :: rest)) cv)] 0 .nil) 0 0 0 (dec [0x42212224111a1a22200ca22122241122122242222122412212224144144111, 0x141113313331221222]) .nil
def r_d4E (w : World) (tb ta t cv nn z tz : Nat) (y0 y1 y2 y3 : Value) (rest : List Value) (uu : Nat) (N : Nat) (p1 p2 : Pos) (p : Pos) : St :=
  runE (VL w (kt2 w.params uu) [1100, 1099] (N + 1090) t [] [⟨none, .call (.builtin "len") ⟨[.ref 1099], []⟩, 8, 1, 2, [(1, (ls (Array.mk (y0 :: y1 :: y2 :: y3 :: (.int (Int.negSucc 0) tz) :: rest)) cv))], .int (Int.ofNat nn) (tk (t + 9)), [], []⟩, ⟨none, .call (.builtin "int.__le__") ⟨[.int (Int.ofNat 5) (tk (t + 4)), .int (Int.ofNat nn) (tk (t + 9))], []⟩, 10, 1, 0, [], (.bool true), [], []⟩] [(lawCode, p1), (cc, p2)]) 141 [(0, (ls #[(.ref 1099), (iv 5 (tk (t + 4)))] 0)), (1, (ls (Array.mk (y0 :: y1 :: y2 :: y3 :: (.int (Int.negSucc 0) tz) :: rest)) cv)), (2, (frm #[(en w.params "box" (tk (t + 0)) (.ref 1100)), (en w.params "many" (tk (t + 1)) (iv 3 (tk ta)))] 2))] (.ret (.int (Int.fmod (-(Int.negSucc 0)) (Int.ofNat 3)) (tk (t + 15)))) 1 16 (.call (.ref 1083) ⟨[.ref 1100, .int 3 (tk ta)], []⟩) p [] (DD (.call (.ref 1083) ⟨[.ref 1100, .int 3 (tk ta)], []⟩)) (mkT [(box 4 tb), (ls (Array.mk (y0 :: y1 :: y2 :: y3 :: (.int (Int.negSucc 0) tz) :: rest)) cv)] 0 .nil) 0 0 0 (dec [0x42212224111a1a22200ca22122241122122242222122412212224144144111, 0x141113313331221222]) .nil
def r_d4O (w : World) (tb ta t cv nn : Nat) (xs : Array Value) (uu : Nat) (N : Nat) (p1 p2 : Pos) (p : Pos) : St :=
  runE (VL w (kt2 w.params uu) [1100, 1099] (N + 1090) t [] [⟨none, .call (.builtin "len") ⟨[.ref 1099], []⟩, 8, 1, 2, [(1, (ls xs cv))], .int (Int.ofNat nn) (tk (t + 9)), [], []⟩, ⟨none, .call (.builtin "int.__le__") ⟨[.int (Int.ofNat 5) (tk (t + 4)), .int (Int.ofNat nn) (tk (t + 9))], []⟩, 10, 1, 0, [], (.bool false), [], []⟩] [(lawCode, p1), (cc, p2)]) 129 [(0, (ls #[(.ref 1099), (iv 5 (tk (t + 4)))] 0)), (1, (ls xs cv)), (2, (frm #[(en w.params "box" (tk (t + 0)) (.ref 1100)), (en w.params "many" (tk (t + 1)) (iv 3 (tk ta)))] 2))] (.ret (iv 0 (tk (t + 17)))) 1 18 (.call (.ref 1083) ⟨[.ref 1100, .int 3 (tk ta)], []⟩) p [] (DD (.call (.ref 1083) ⟨[.ref 1100, .int 3 (tk ta)], []⟩)) (mkT [(box 4 tb), (ls xs cv)] 0 .nil) 0 0 0 (dec [0x24122122241a1a22200ca22122241122122242222122412212224144144111, 0x141122122]) .nil
def r_d5P (w : World) (tb ta t cv nn z tz : Nat) (y0 y1 y2 y3 y4 : Value) (rest : List Value) (uu : Nat) (N : Nat) (p1 p2 : Pos) (p : Pos) : St :=
  runE (VL w (kt2 w.params uu) [1100, 1099] (N + 1090) t [] [⟨none, .call (.builtin "len") ⟨[.ref 1099], []⟩, 8, 1, 2, [(1, (ls (Array.mk (y0 :: y1 :: y2 :: y3 :: y4 :: (.int (Int.ofNat z) tz) :: rest)) cv))], .int (Int.ofNat nn) (tk (t + 9)), [], []⟩, ⟨none, .call (.builtin "int.__le__") ⟨[.int (Int.ofNat 6) (tk (t + 4)), .int (Int.ofNat nn) (tk (t + 9))], []⟩, 10, 1, 0, [], (.bool true), [], []⟩] [(lawCode, p1), (cc, p2)]) 140 [(0, (ls #[(.ref 1099), (iv 6 (tk (t + 4)))] 0)), (1, (ls (Array.mk (y0 :: y1 :: y2 :: y3 :: y4 :: (.int (Int.ofNat z) tz) :: rest)) cv)), (2, (frm #[(en w.params "box" (tk (t + 0)) (.ref 1100)), (en w.params "many" (tk (t + 1)) (iv 2 (tk ta)))] 2))] (.ret (.int (Int.fmod (Int.ofNat z) (Int.ofNat 2)) (tk (t + 14)))) 1 15 (.call (.ref 1083) ⟨[.ref 1100, .int 2 (tk ta)], []⟩) p [] (DD (.call (.ref 1083) ⟨[.ref 1100, .int 2 (tk ta)], []⟩)) (mkT [(box 5 tb), (ls (Array.mk (y0 :: y1 :: y2 :: y3 :: y4 :: (.int (Int.ofNat z) tz) :: rest)) cv)] 0 .nil) 0 0 0 (dec [0x42212224111a1a22200ca22122241122122242222122412212224144144111, 0x141113313331221222]) .nil
def r_d5M (w : World) (tb ta t cv nn z tz : Nat) (y0 y1 y2 y3 y4 : Value) (rest : List Value) (uu : Nat) (N : Nat) (p1 p2 : Pos) (p : Pos) : St :=
  runE (VL w (kt2 w.params uu) [1100, 1099] (N + 1090) t [] [⟨none, .call (.builtin "len") ⟨[.ref 1099], []⟩, 8, 1, 2, [(1, (ls (Array.mk (y0 :: y1 :: y2 :: y3 :: y4 :: (.int (Int.negSucc (Nat.succ z)) tz) :: rest)) cv))], .int (Int.ofNat nn) (tk (t + 9)), [], []⟩, ⟨none, .call (.builtin "int.__le__") ⟨[.int (Int.ofNat 6) (tk (t + 4)), .int (Int.ofNat nn) (tk (t + 9))], []⟩, 10, 1, 0, [], (.bool true), [], []⟩] [(lawCode, p1), (cc, p2)]) 141 [(0, (ls #[(.ref 1099), (iv 6 (tk (t + 4)))] 0)), (1, (ls (Array.mk (y0 :: y1 :: y2 :: y3 :: y4 :: (.int (Int.negSucc (Nat.succ z)) tz) :: rest)) cv)), (2, (frm #[(en w.params "box" (tk (t + 0)) (.ref 1100)), (en w.params "many" (tk (t + 1)) (iv 2 (tk ta)))] 2))] (.ret (.int (Int.fmod (-(Int.negSucc (Nat.succ z))) (Int.ofNat 2)) (tk (t + 15)))) 1 16 (.call (.ref 1083) ⟨[.ref 1100, .int 2 (tk ta)], []⟩) p [] (DD (.call (.ref 1083) ⟨[.ref 1100, .int 2 (tk ta)], []⟩)) (mkT [(box 5 tb), (ls (Array.mk (y0 :: y1 :: y2 :: y3 :: y4 :: (.int (Int.negSucc (Nat.succ z)) tz) :: rest)) cv)] 0 .nil) 0 0 0 (dec [0x42212224111a1a22200ca22122241122122242222122412212224144144111, 0x141113313331221222]) .nil
def r_d5E (w : World) (tb ta t cv nn z tz : Nat) (y0 y1 y2 y3 y4 : Value) (rest : List Value) (uu : Nat) (N : Nat) (p1 p2 : Pos) (p : Pos) : St :=
  runE (VL w (kt2 w.params uu) [1100, 1099] (N + 1090) t [] [⟨none, .call (.builtin "len") ⟨[.ref 1099], []⟩, 8, 1, 2, [(1, (ls (Array.mk (y0 :: y1 :: y2 :: y3 :: y4 :: (.int (Int.negSucc 0) tz) :: rest)) cv))], .int (Int.ofNat nn) (tk (t + 9)), [], []⟩, ⟨none, .call (.builtin "int.__le__") ⟨[.int (Int.ofNat 6) (tk (t + 4)), .int (Int.ofNat nn) (tk (t + 9))], []⟩, 10, 1, 0, [], (.bool true), [], []⟩] [(lawCode, p1), (cc, p2)]) 141 [(0, (ls #[(.ref 1099), (iv 6 (tk (t + 4)))] 0)), (1, (ls (Array.mk (y0 :: y1 :: y2 :: y3 :: y4 :: (.int (Int.negSucc 0) tz) :: rest)) cv)), (2, (frm #[(en w.params "box" (tk (t + 0)) (.ref 1100)), (en w.params "many" (tk (t + 1)) (iv 2 (tk ta)))] 2))] (.ret (.int (Int.fmod (-(Int.negSucc 0)) (Int.ofNat 2)) (tk (t + 15)))) 1 16 (.call (.ref 1083) ⟨[.ref 1100, .int 2 (tk ta)], []⟩) p [] (DD (.call (.ref 1083) ⟨[.ref 1100, .int 2 (tk ta)], []⟩)) (mkT [(box 5 tb), (ls (Array.mk (y0 :: y1 :: y2 :: y3 :: y4 :: (.int (Int.negSucc 0) tz) :: rest)) cv)] 0 .nil) 0 0 0 (dec [0x42212224111a1a22200ca22122241122122242222122412212224144144111, 0x141113313331221222]) .nil
def r_d5O (w : World) (tb ta t cv nn : Nat) (xs : Array Value) (uu : Nat) (N : Nat) (p1 p2 : Pos) (p : Pos) : St :=
  runE (VL w (kt2 w.params uu) [1100, 1099] (N + 1090) t [] [⟨none, .call (.builtin "len") ⟨[.ref 1099], []⟩, 8, 1, 2, [(1, (ls xs cv))], .int (Int.ofNat nn) (tk (t + 9)), [], []⟩, ⟨none, .call (.builtin "int.__le__") ⟨[.int (Int.ofNat 6) (tk (t + 4)), .int (Int.ofNat nn) (tk (t + 9))], []⟩, 10, 1, 0, [], (.bool false), [], []⟩] [(lawCode, p1), (cc, p2)]) 129 [(0, (ls #[(.ref 1099), (iv 6 (tk (t + 4)))] 0)), (1, (ls xs cv)), (2, (frm #[(en w.params "box" (tk (t + 0)) (.ref 1100)), (en w.params "many" (tk (t + 1)) (iv 2 (tk ta)))] 2))] (.ret (iv 1 (tk (t + 17)))) 1 18 (.call (.ref 1083) ⟨[.ref 1100, .int 2 (tk ta)], []⟩) p [] (DD (.call (.ref 1083) ⟨[.ref 1100, .int 2 (tk ta)], []⟩)) (mkT [(box 5 tb), (ls xs cv)] 0 .nil) 0 0 0 (dec [0x24122122241a1a22200ca22122241122122242222122412212224144144111, 0x141122122]) .nil
def r_d6P (w : World) (tb ta t cv nn z tz : Nat) (y0 y1 y2 y3 y4 y5 : Value) (rest : List Value) (uu : Nat) (N : Nat) (p1 p2 : Pos) (p : Pos) : St :=
  runE (VL w (kt2 w.params uu) [1100, 1099] (N + 1090) t [] [⟨none, .call (.builtin "len") ⟨[.ref 1099], []⟩, 8, 1, 2, [(1, (ls (Array.mk (y0 :: y1 :: y2 :: y3 :: y4 :: y5 :: (.int (Int.ofNat z) tz) :: rest)) cv))], .int (Int.ofNat nn) (tk (t + 9)), [], []⟩, ⟨none, .call (.builtin "int.__le__") ⟨[.int (Int.ofNat 7) (tk (t + 4)), .int (Int.ofNat nn) (tk (t + 9))], []⟩, 10, 1, 0, [], (.bool true), [], []⟩] [(lawCode, p1), (cc, p2)]) 140 [(0, (ls #[(.ref 1099), (iv 7 (tk (t + 4)))] 0)), (1, (ls (Array.mk (y0 :: y1 :: y2 :: y3 :: y4 :: y5 :: (.int (Int.ofNat z) tz) :: rest)) cv)), (2, (frm #[(en w.params "box" (tk (t + 0)) (.ref 1100)), (en w.params "many" (tk (t + 1)) (iv 2 (tk ta)))] 2))] (.ret (.int (Int.fmod (Int.ofNat z) (Int.ofNat 2)) (tk (t + 14)))) 1 15 (.call (.ref 1083) ⟨[.ref 1100, .int 2 (tk ta)], []⟩) p [] (DD (.call (.ref 1083) ⟨[.ref 1100, .int 2 (tk ta)], []⟩)) (mkT [(box 6 tb), (ls (Array.mk (y0 :: y1 :: y2 :: y3 :: y4 :: y5 :: (.int (Int.ofNat z) tz) :: rest)) cv)] 0 .nil) 0 0 0 (dec [0x42212224111a1a22200ca22122241122122242222122412212224144144111, 0x141113313331221222]) .nil
def r_d6M (w : World) (tb ta t cv nn z tz : Nat) (y0 y1 y2 y3 y4 y5 : Value) (rest : List Value) (uu : Nat) (N : Nat) (p1 p2 : Pos) (p : Pos) : St :=
  runE (VL w (kt2 w.params uu) [1100, 1099] (N + 1090) t [] [⟨none, .call (.builtin "len") ⟨[.ref 1099], []⟩, 8, 1, 2, [(1, (ls (Array.mk (y0 :: y1 :: y2 :: y3 :: y4 :: y5 :: (.int (Int.negSucc (Nat.succ z)) tz) :: rest)) cv))], .int (Int.ofNat nn) (tk (t + 9)), [], []⟩, ⟨none, .call (.builtin "int.__le__") ⟨[.int (Int.ofNat 7) (tk (t + 4)), .int (Int.ofNat nn) (tk (t + 9))], []⟩, 10, 1, 0, [], (.bool true), [], []⟩] [(lawCode, p1), (cc, p2)]) 141 [(0, (ls #[(.ref 1099), (iv 7 (tk (t + 4)))] 0)), (1, (ls (Array.mk (y0 :: y1 :: y2 :: y3 :: y4 :: y5 :: (.int (Int.negSucc (Nat.succ z)) tz) :: rest)) cv)), (2, (frm #[(en w.params "box" (tk (t + 0)) (.ref 1100)), (en w.params "many" (tk (t + 1)) (iv 2 (tk ta)))] 2))] (.ret (.int (Int.fmod (-(Int.negSucc (Nat.succ z))) (Int.ofNat 2)) (tk (t + 15)))) 1 16 (.call (.ref 1083) ⟨[.ref 1100, .int 2 (tk ta)], []⟩) p [] (DD (.call (.ref 1083) ⟨[.ref 1100, .int 2 (tk ta)], []⟩)) (mkT [(box 6 tb), (ls (Array.mk (y0 :: y1 :: y2 :: y3 :: y4 :: y5 :: (.int (Int.negSucc (Nat.succ z)) tz) :: rest)) cv)] 0 .nil) 0 0 0 (dec [0x42212224111a1a22200ca22122241122122242222122412212224144144111, 0x141113313331221222]) .nil
def r_d6E (w : World) (tb ta t cv nn z tz : Nat) (y0 y1 y2 y3 y4 y5 : Value) (rest : List Value) (uu : Nat) (N : Nat) (p1 p2 : Pos) (p : Pos) : St :=
  runE (VL w (kt2 w.params uu) [1100, 1099] (N + 1090) t [] [⟨none, .call (.builtin "len") ⟨[.ref 1099], []⟩, 8, 1, 2, [(1, (ls (Array.mk (y0 :: y1 :: y2 :: y3 :: y4 :: y5 :: (.int (Int.negSucc 0) tz) :: rest)) cv))], .int (Int.ofNat nn) (tk (t + 9)), [], []⟩, ⟨none, .call (.builtin "int.__le__") ⟨[.int (Int.ofNat 7) (tk (t + 4)), .int (Int.ofNat nn) (tk (t + 9))], []⟩, 10, 1, 0, [], (.bool true), [], []⟩] [(lawCode, p1), (cc, p2)]) 141 [(0, (ls #[(.ref 1099), (iv 7 (tk (t + 4)))] 0)), (1, (ls (Array.mk (y0 :: y1 :: y2 :: y3 :: y4 :: y5 :: (.int (Int.negSucc 0) tz) :: rest)) cv)), (2, (frm #[(en w.params "box" (tk (t + 0)) (.ref 1100)), (en w.params "many" (tk (t + 1)) (iv 2 (tk ta)))] 2))] (.ret (.int (Int.fmod (-(Int.negSucc 0)) (Int.ofNat 2)) (tk (t + 15)))) 1 16 (.call (.ref 1083) ⟨[.ref 1100, .int 2 (tk ta)], []⟩) p [] (DD (.call (.ref 1083) ⟨[.ref 1100, .int 2 (tk ta)], []⟩)) (mkT [(box 6 tb), (ls (Array.mk (y0 :: y1 :: y2 :: y3 :: y4 :: y5 :: (.int (Int.negSucc 0) tz) :: rest)) cv)] 0 .nil) 0 0 0 (dec [0x42212224111a1a22200ca22122241122122242222122412212224144144111, 0x141113313331221222]) .nil
def r_d6O (w : World) (tb ta t cv nn : Nat) (xs : Array Value) (uu : Nat) (N : Nat) (p1 p2 : Pos) (p : Pos) : St :=
  runE (VL w (kt2 w.params uu) [1100, 1099] (N + 1090) t [] [⟨none, .call (.builtin "len") ⟨[.ref 1099], []⟩, 8, 1, 2, [(1, (ls xs cv))], .int (Int.ofNat nn) (tk (t + 9)), [], []⟩, ⟨none, .call (.builtin "int.__le__") ⟨[.int (Int.ofNat 7) (tk (t + 4)), .int (Int.ofNat nn) (tk (t + 9))], []⟩, 10, 1, 0, [], (.bool false), [], []⟩] [(lawCode, p1), (cc, p2)]) 129 [(0, (ls #[(.ref 1099), (iv 7 (tk (t + 4)))] 0)), (1, (ls xs cv)), (2, (frm #[(en w.params "box" (tk (t + 0)) (.ref 1100)), (en w.params "many" (tk (t + 1)) (iv 2 (tk ta)))] 2))] (.ret (iv 0 (tk (t + 17)))) 1 18 (.call (.ref 1083) ⟨[.ref 1100, .int 2 (tk ta)], []⟩) p [] (DD (.call (.ref 1083) ⟨[.ref 1100, .int 2 (tk ta)], []⟩)) (mkT [(box 6 tb), (ls xs cv)] 0 .nil) 0 0 0 (dec [0x24122122241a1a22200ca22122241122122242222122412212224144144111, 0x141122122]) .nil
def r_d7P (w : World) (tb ta t cv nn z tz : Nat) (y0 y1 y2 y3 y4 y5 y6 : Value) (rest : List Value) (uu : Nat) (N : Nat) (p1 p2 : Pos) (p : Pos) : St :=
  runE (VL w (kt2 w.params uu) [1100, 1099] (N + 1090) t [] [⟨none, .call (.builtin "len") ⟨[.ref 1099], []⟩, 8, 1, 2, [(1, (ls (Array.mk (y0 :: y1 :: y2 :: y3 :: y4 :: y5 :: y6 :: (.int (Int.ofNat z) tz) :: rest)) cv))], .int (Int.ofNat nn) (tk (t + 9)), [], []⟩, ⟨none, .call (.builtin "int.__le__") ⟨[.int (Int.ofNat 8) (tk (t + 4)), .int (Int.ofNat nn) (tk (t + 9))], []⟩, 10, 1, 0, [], (.bool true), [], []⟩] [(lawCode, p1), (cc, p2)]) 140 [(0, (ls #[(.ref 1099), (iv 8 (tk (t + 4)))] 0)), (1, (ls (Array.mk (y0 :: y1 :: y2 :: y3 :: y4 :: y5 :: y6 :: (.int (Int.ofNat z) tz) :: rest)) cv)), (2, (frm #[(en w.params "box" (tk (t + 0)) (.ref 1100)), (en w.params "many" (tk (t + 1)) (iv 3 (tk ta)))] 2))] (.ret (.int (Int.fmod (Int.ofNat z) (Int.ofNat 3)) (tk (t + 14)))) 1 15 (.call (.ref 1083) ⟨[.ref 1100, .int 3 (tk ta)], []⟩) p [] (DD (.call (.ref 1083) ⟨[.ref 1100, .int 3 (tk ta)], []⟩)) (mkT [(box 7 tb), (ls (Array.mk (y0 :: y1 :: y2 :: y3 :: y4 :: y5 :: y6 :: (.int (Int.ofNat z) tz) :: rest)) cv)] 0 .nil) 0 0 0 (dec [0x42212224111a1a22200ca22122241122122242222122412212224144144111, 0x141113313331221222]) .nil
def r_d7M (w : World) (tb ta t cv nn z tz : Nat) (y0 y1 y2 y3 y4 y5 y6 : Value) (rest : List Value) (uu : Nat) (N : Nat) (p1 p2 : Pos) (p : Pos) : St :=
  runE (VL w (kt2 w.params uu) [1100, 1099] (N + 1090) t [] [⟨none, .call (.builtin "len") ⟨[.ref 1099], []⟩, 8, 1, 2, [(1, (ls (Array.mk (y0 :: y1 :: y2 :: y3 :: y4 :: y5 :: y6 :: (.int (Int.negSucc (Nat.succ z)) tz) :: rest)) cv))], .int (Int.ofNat nn) (tk (t + 9)), [], []⟩, ⟨none, .call (.builtin "int.__le__") ⟨[.int (Int.ofNat 8) (tk (t + 4)), .int (Int.ofNat nn) (tk (t + 9))], []⟩, 10, 1, 0, [], (.bool true), [], []⟩] [(lawCode, p1), (cc, p2)]) 141 [(0, (ls #[(.ref 1099), (iv 8 (tk (t + 4)))] 0)), (1, (ls (Array.mk (y0 :: y1 :: y2 :: y3 :: y4 :: y5 :: y6 :: (.int (Int.negSucc (Nat.succ z)) tz) :: rest)) cv)), (2, (frm #[(en w.params "box" (tk (t + 0)) (.ref 1100)), (en w.params "many" (tk (t + 1)) (iv 3 (tk ta)))] 2))] (.ret (.int (Int.fmod (-(Int.negSucc (Nat.succ z))) (Int.ofNat 3)) (tk (t + 15)))) 1 16 (.call (.ref 1083) ⟨[.ref 1100, .int 3 (tk ta)], []⟩) p [] (DD (.call (.ref 1083) ⟨[.ref 1100, .int 3 (tk ta)], []⟩)) (mkT [(box 7 tb), (ls (Array.mk (y0 :: y1 :: y2 :: y3 :: y4 :: y5 :: y6 :: (.int (Int.negSucc (Nat.succ z)) tz) :: rest)) cv)] 0 .nil) 0 0 0 (dec [0x42212224111a1a22200ca22122241122122242222122412212224144144111, 0x141113313331221222]) .nil
def r_d7E (w : World) (tb ta t cv nn z tz : Nat) (y0 y1 y2 y3 y4 y5 y6 : Value) (rest : List Value) (uu : Nat) (N : Nat) (p1 p2 : Pos) (p : Pos) : St :=
  runE (VL w (kt2 w.params uu) [1100, 1099] (N + 1090) t [] [⟨none, .call (.builtin "len") ⟨[.ref 1099], []⟩, 8, 1, 2, [(1, (ls (Array.mk (y0 :: y1 :: y2 :: y3 :: y4 :: y5 :: y6 :: (.int (Int.negSucc 0) tz) :: rest)) cv))], .int (Int.ofNat nn) (tk (t + 9)), [], []⟩, ⟨none, .call (.builtin "int.__le__") ⟨[.int (Int.ofNat 8) (tk (t + 4)), .int (Int.ofNat nn) (tk (t + 9))], []⟩, 10, 1, 0, [], (.bool true), [], []⟩] [(lawCode, p1), (cc, p2)]) 141 [(0, (ls #[(.ref 1099), (iv 8 (tk (t + 4)))] 0)), (1, (ls (Array.mk (y0 :: y1 :: y2 :: y3 :: y4 :: y5 :: y6 :: (.int (Int.negSucc 0) tz) :: rest)) cv)), (2, (frm #[(en w.params "box" (tk (t + 0)) (.ref 1100)), (en w.params "many" (tk (t + 1)) (iv 3 (tk ta)))] 2))] (.ret (.int (Int.fmod (-(Int.negSucc 0)) (Int.ofNat 3)) (tk (t + 15)))) 1 16 (.call (.ref 1083) ⟨[.ref 1100, .int 3 (tk ta)], []⟩) p [] (DD (.call (.ref 1083) ⟨[.ref 1100, .int 3 (tk ta)], []⟩)) (mkT [(box 7 tb), (ls (Array.mk (y0 :: y1 :: y2 :: y3 :: y4 :: y5 :: y6 :: (.int (Int.negSucc 0) tz) :: rest)) cv)] 0 .nil) 0 0 0 (dec [0x42212224111a1a22200ca22122241122122242222122412212224144144111, 0x141113313331221222]) .nil
def r_d7O (w : World) (tb ta t cv nn : Nat) (xs : Array Value) (uu : Nat) (N : Nat) (p1 p2 : Pos) (p : Pos) : St :=
  runE (VL w (kt2 w.params uu) [1100, 1099] (N + 1090) t [] [⟨none, .call (.builtin "len") ⟨[.ref 1099], []⟩, 8, 1, 2, [(1, (ls xs cv))], .int (Int.ofNat nn) (tk (t + 9)), [], []⟩, ⟨none, .call (.builtin "int.__le__") ⟨[.int (Int.ofNat 8) (tk (t + 4)), .int (Int.ofNat nn) (tk (t + 9))], []⟩, 10, 1, 0, [], (.bool false), [], []⟩] [(lawCode, p1), (cc, p2)]) 129 [(0, (ls #[(.ref 1099), (iv 8 (tk (t + 4)))] 0)), (1, (ls xs cv)), (2, (frm #[(en w.params "box" (tk (t + 0)) (.ref 1100)), (en w.params "many" (tk (t + 1)) (iv 3 (tk ta)))] 2))] (.ret (iv 1 (tk (t + 17)))) 1 18 (.call (.ref 1083) ⟨[.ref 1100, .int 3 (tk ta)], []⟩) p [] (DD (.call (.ref 1083) ⟨[.ref 1100, .int 3 (tk ta)], []⟩)) (mkT [(box 7 tb), (ls xs cv)] 0 .nil) 0 0 0 (dec [0x24122122241a1a22200ca22122241122122242222122412212224144144111, 0x141122122]) .nil
theorem cs_RD :
  (∀ (w : World) (tb ta t cv nn z tz : Nat) (rest : List Value) (uu : Nat) (N : Nat) (p1 p2 : Pos) (p : Pos), okR (r_d0P w tb ta t cv nn z tz rest uu N p1 p2 p)) ∧
  (∀ (w : World) (tb ta t cv nn z tz : Nat) (rest : List Value) (uu : Nat) (N : Nat) (p1 p2 : Pos) (p : Pos), okR (r_d0M w tb ta t cv nn z tz rest uu N p1 p2 p)) ∧
  (∀ (w : World) (tb ta t cv nn z tz : Nat) (rest : List Value) (uu : Nat) (N : Nat) (p1 p2 : Pos) (p : Pos), okR (r_d0E w tb ta t cv nn z tz rest uu N p1 p2 p)) ∧
  (∀ (w : World) (tb ta t cv nn : Nat) (xs : Array Value) (uu : Nat) (N : Nat) (p1 p2 : Pos) (p : Pos), okR (r_d0O w tb ta t cv nn xs uu N p1 p2 p)) ∧
  (∀ (w : World) (tb ta t cv nn z tz : Nat) (y0 : Value) (rest : List Value) (uu : Nat) (N : Nat) (it ac : Value) (la : Nat) (p0 p1 p2 : Pos) (p : Pos), okR (r_d1P w tb ta t cv nn z tz y0 rest uu N it ac la p0 p1 p2 p)) ∧
  (∀ (w : World) (tb ta t cv nn z tz : Nat) (y0 : Value) (rest : List Value) (uu : Nat) (N : Nat) (it ac : Value) (la : Nat) (p0 p1 p2 : Pos) (p : Pos), okR (r_d1M w tb ta t cv nn z tz y0 rest uu N it ac la p0 p1 p2 p)) ∧
  (∀ (w : World) (tb ta t cv nn z tz : Nat) (y0 : Value) (rest : List Value) (uu : Nat) (N : Nat) (it ac : Value) (la : Nat) (p0 p1 p2 : Pos) (p : Pos), okR (r_d1E w tb ta t cv nn z tz y0 rest uu N it ac la p0 p1 p2 p)) ∧
  (∀ (w : World) (tb ta t cv nn : Nat) (xs : Array Value) (uu : Nat) (N : Nat) (it ac : Value) (la : Nat) (p0 p1 p2 : Pos) (p : Pos), okR (r_d1O w tb ta t cv nn xs uu N it ac la p0 p1 p2 p)) ∧
  (∀ (w : World) (tb ta t cv nn z tz : Nat) (y0 y1 : Value) (rest : List Value) (uu : Nat) (N : Nat) (it ac : Value) (la : Nat) (p0 p1 p2 : Pos) (p : Pos), okR (r_d2P w tb ta t cv nn z tz y0 y1 rest uu N it ac la p0 p1 p2 p)) ∧
  (∀ (w : World) (tb ta t cv nn z tz : Nat) (y0 y1 : Value) (rest : List Value) (uu : Nat) (N : Nat) (it ac : Value) (la : Nat) (p0 p1 p2 : Pos) (p : Pos), okR (r_d2M w tb ta t cv nn z tz y0 y1 rest uu N it ac la p0 p1 p2 p)) ∧
  (∀ (w : World) (tb ta t cv nn z tz : Nat) (y0 y1 : Value) (rest : List Value) (uu : Nat) (N : Nat) (it ac : Value) (la : Nat) (p0 p1 p2 : Pos) (p : Pos), okR (r_d2E w tb ta t cv nn z tz y0 y1 rest uu N it ac la p0 p1 p2 p)) ∧
  (∀ (w : World) (tb ta t cv nn : Nat) (xs : Array Value) (uu : Nat) (N : Nat) (it ac : Value) (la : Nat) (p0 p1 p2 : Pos) (p : Pos), okR (r_d2O w tb ta t cv nn xs uu N it ac la p0 p1 p2 p)) ∧
  (∀ (w : World) (tb ta t cv nn z tz : Nat) (y0 y1 y2 : Value) (rest : List Value) (uu : Nat) (N : Nat) (p1 p2 : Pos) (p : Pos), okR (r_d3P w tb ta t cv nn z tz y0 y1 y2 rest uu N p1 p2 p)) ∧
  (∀ (w : World) (tb ta t cv nn z tz : Nat) (y0 y1 y2 : Value) (rest : List Value) (uu : Nat) (N : Nat) (p1 p2 : Pos) (p : Pos), okR (r_d3M w tb ta t cv nn z tz y0 y1 y2 rest uu N p1 p2 p)) ∧
  (∀ (w : World) (tb ta t cv nn z tz : Nat) (y0 y1 y2 : Value) (rest : List Value) (uu : Nat) (N : Nat) (p1 p2 : Pos) (p : Pos), okR (r_d3E w tb ta t cv nn z tz y0 y1 y2 rest uu N p1 p2 p)) ∧
  (∀ (w : World) (tb ta t cv nn : Nat) (xs : Array Value) (uu : Nat) (N : Nat) (p1 p2 : Pos) (p : Pos), okR (r_d3O w tb ta t cv nn xs uu N p1 p2 p)) ∧
  (∀ (w : World) (tb ta t cv nn z tz : Nat) (y0 y1 y2 y3 : Value) (rest : List Value) (uu : Nat) (N : Nat) (p1 p2 : Pos) (p : Pos), okR (r_d4P w tb ta t cv nn z tz y0 y1 y2 y3 rest uu N p1 p2 p)) ∧
  (∀ (w : World) (tb ta t cv nn z tz : Nat) (y0 y1 y2 y3 : Value) (rest : List Value) (uu : Nat) (N : Nat) (p1 p2 : Pos) (p : Pos), okR (r_d4M w tb ta t cv nn z tz y0 y1 y2 y3 rest uu N p1 p2 p)) ∧
  (∀ (w : World) (tb ta t cv nn z tz : Nat) (y0 y1 y2 y3 : Value) (rest : List Value) (uu : Nat) (N : Nat) (p1 p2 : Pos) (p : Pos), okR (r_d4E w tb ta t cv nn z tz y0 y1 y2 y3 rest uu N p1 p2 p)) ∧
  (∀ (w : World) (tb ta t cv nn : Nat) (xs : Array Value) (uu : Nat) (N : Nat) (p1 p2 : Pos) (p : Pos), okR (r_d4O w tb ta t cv nn xs uu N p1 p2 p)) ∧
  (∀ (w : World) (tb ta t cv nn z tz : Nat) (y0 y1 y2 y3 y4 : Value) (rest : List Value) (uu : Nat) (N : Nat) (p1 p2 : Pos) (p : Pos), okR (r_d5P w tb ta t cv nn z tz y0 y1 y2 y3 y4 rest uu N p1 p2 p)) ∧
  (∀ (w : World) (tb ta t cv nn z tz : Nat) (y0 y1 y2 y3 y4 : Value) (rest : List Value) (uu : Nat) (N : Nat) (p1 p2 : Pos) (p : Pos), okR (r_d5M w tb ta t cv nn z tz y0 y1 y2 y3 y4 rest uu N p1 p2 p)) ∧
  (∀ (w : World) (tb ta t cv nn z tz : Nat) (y0 y1 y2 y3 y4 : Value) (rest : List Value) (uu : Nat) (N : Nat) (p1 p2 : Pos) (p : Pos), okR (r_d5E w tb ta t cv nn z tz y0 y1 y2 y3 y4 rest uu N p1 p2 p)) ∧
  (∀ (w : World) (tb ta t cv nn : Nat) (xs : Array Value) (uu : Nat) (N : Nat) (p1 p2 : Pos) (p : Pos), okR (r_d5O w tb ta t cv nn xs uu N p1 p2 p)) ∧
  (∀ (w : World) (tb ta t cv nn z tz : Nat) (y0 y1 y2 y3 y4 y5 : Value) (rest : List Value) (uu : Nat) (N : Nat) (p1 p2 : Pos) (p : Pos), okR (r_d6P w tb ta t cv nn z tz y0 y1 y2 y3 y4 y5 rest uu N p1 p2 p)) ∧
  (∀ (w : World) (tb ta t cv nn z tz : Nat) (y0 y1 y2 y3 y4 y5 : Value) (rest : List Value) (uu : Nat) (N : Nat) (p1 p2 : Pos) (p : Pos), okR (r_d6M w tb ta t cv nn z tz y0 y1 y2 y3 y4 y5 rest uu N p1 p2 p)) ∧
  (∀ (w : World) (tb ta t cv nn z tz : Nat) (y0 y1 y2 y3 y4 y5 : Value) (rest : List Value) (uu : Nat) (N : Nat) (p1 p2 : Pos) (p : Pos), okR (r_d6E w tb ta t cv nn z tz y0 y1 y2 y3 y4 y5 rest uu N p1 p2 p)) ∧
  (∀ (w : World) (tb ta t cv nn : Nat) (xs : Array Value) (uu : Nat) (N : Nat) (p1 p2 : Pos) (p : Pos), okR (r_d6O w tb ta t cv nn xs uu N p1 p2 p)) ∧
  (∀ (w : World) (tb ta t cv nn z tz : Nat) (y0 y1 y2 y3 y4 y5 y6 : Value) (rest : List Value) (uu : Nat) (N : Nat) (p1 p2 : Pos) (p : Pos), okR (r_d7P w tb ta t cv nn z tz y0 y1 y2 y3 y4 y5 y6 rest uu N p1 p2 p)) ∧
  (∀ (w : World) (tb ta t cv nn z tz : Nat) (y0 y1 y2 y3 y4 y5 y6 : Value) (rest : List Value) (uu : Nat) (N : Nat) (p1 p2 : Pos) (p : Pos), okR (r_d7M w tb ta t cv nn z tz y0 y1 y2 y3 y4 y5 y6 rest uu N p1 p2 p)) ∧
  (∀ (w : World) (tb ta t cv nn z tz : Nat) (y0 y1 y2 y3 y4 y5 y6 : Value) (rest : List Value) (uu : Nat) (N : Nat) (p1 p2 : Pos) (p : Pos), okR (r_d7E w tb ta t cv nn z tz y0 y1 y2 y3 y4 y5 y6 rest uu N p1 p2 p)) ∧
  (∀ (w : World) (tb ta t cv nn : Nat) (xs : Array Value) (uu : Nat) (N : Nat) (p1 p2 : Pos) (p : Pos), okR (r_d7O w tb ta t cv nn xs uu N p1 p2 p)) :=
  ⟨fun _ _ _ _ _ _ _ _ _ _ _ _ _ _ => by kernel_rfl,
  fun _ _ _ _ _ _ _ _ _ _ _ _ _ _ => by kernel_rfl,
  fun _ _ _ _ _ _ _ _ _ _ _ _ _ _ => by kernel_rfl,
  fun _ _ _ _ _ _ _ _ _ _ _ _ => by kernel_rfl,
  fun _ _ _ _ _ _ _ _ _ _ _ _ _ _ _ _ _ _ _ => by kernel_rfl,
  fun _ _ _ _ _ _ _ _ _ _ _ _ _ _ _ _ _ _ _ => by kernel_rfl,
  fun _ _ _ _ _ _ _ _ _ _ _ _ _ _ _ _ _ _ _ => by kernel_rfl,
  fun _ _ _ _ _ _ _ _ _ _ _ _ _ _ _ _ => by kernel_rfl,
  fun _ _ _ _ _ _ _ _ _ _ _ _ _ _ _ _ _ _ _ _ => by kernel_rfl,
  fun _ _ _ _ _ _ _ _ _ _ _ _ _ _ _ _ _ _ _ _ => by kernel_rfl,
  fun _ _ _ _ _ _ _ _ _ _ _ _ _ _ _ _ _ _ _ _ => by kernel_rfl,
  fun _ _ _ _ _ _ _ _ _ _ _ _ _ _ _ _ => by kernel_rfl,
  fun _ _ _ _ _ _ _ _ _ _ _ _ _ _ _ _ _ => by kernel_rfl,
  fun _ _ _ _ _ _ _ _ _ _ _ _ _ _ _ _ _ => by kernel_rfl,
  fun _ _ _ _ _ _ _ _ _ _ _ _ _ _ _ _ _ => by kernel_rfl,
  fun _ _ _ _ _ _ _ _ _ _ _ _ => by kernel_rfl,
  fun _ _ _ _ _ _ _ _ _ _ _ _ _ _ _ _ _ _ => by kernel_rfl,
  fun _ _ _ _ _ _ _ _ _ _ _ _ _ _ _ _ _ _ => by kernel_rfl,
  fun _ _ _ _ _ _ _ _ _ _ _ _ _ _ _ _ _ _ => by kernel_rfl,
  fun _ _ _ _ _ _ _ _ _ _ _ _ => by kernel_rfl,
  fun _ _ _ _ _ _ _ _ _ _ _ _ _ _ _ _ _ _ _ => by kernel_rfl,
  fun _ _ _ _ _ _ _ _ _ _ _ _ _ _ _ _ _ _ _ => by kernel_rfl,
  fun _ _ _ _ _ _ _ _ _ _ _ _ _ _ _ _ _ _ _ => by kernel_rfl,
  fun _ _ _ _ _ _ _ _ _ _ _ _ => by kernel_rfl,
  fun _ _ _ _ _ _ _ _ _ _ _ _ _ _ _ _ _ _ _ _ => by kernel_rfl,
  fun _ _ _ _ _ _ _ _ _ _ _ _ _ _ _ _ _ _ _ _ => by kernel_rfl,
  fun _ _ _ _ _ _ _ _ _ _ _ _ _ _ _ _ _ _ _ _ => by kernel_rfl,
  fun _ _ _ _ _ _ _ _ _ _ _ _ => by kernel_rfl,
  fun _ _ _ _ _ _ _ _ _ _ _ _ _ _ _ _ _ _ _ _ _ => by kernel_rfl,
  fun _ _ _ _ _ _ _ _ _ _ _ _ _ _ _ _ _ _ _ _ _ => by kernel_rfl,
  fun _ _ _ _ _ _ _ _ _ _ _ _ _ _ _ _ _ _ _ _ _ => by kernel_rfl,
  fun _ _ _ _ _ _ _ _ _ _ _ _ => by kernel_rfl⟩
end
end Mine
end
section
set_option maxRecDepth 100000
set_option linter.unusedVariables false
open PySem PySem.W PySem.Calls PyProof.Rows
open PySem.Sem (wp)
namespace Mine
noncomputable abbrev lenS (t : Nat) (x : Obj) (nn : Nat) : Sp := ⟨none, .call (.builtin "len") ⟨[.ref 1099], []⟩, 8, 1, 2, [(1, x)], .int (Int.ofNat nn) (t + 9 + 1837), [], []⟩
noncomputable abbrev leS (t a nn : Nat) (q : Bool) : Sp := ⟨none, .call (.builtin "int.__le__") ⟨[.int (Int.ofNat a) (t + 4 + 1837), .int (Int.ofNat nn) (t + 9 + 1837)], []⟩, 10, 1, 0, [], (.bool q), [], []⟩
theorem wlt (n : Nat) (s : Shared) (tk : Nat) (h : s.toks = tk) : WentA s s tk [] [] :=
  ⟨(Nat.add_zero _).symm, h, fun _ h => (nomatch h), fun _ _ h => by simp at h, fun _ _ _ e => e, rfl, rfl, rfl⟩
theorem sp_len {w : World} {kt : PySem.W.X.KT} {N t nn cv : Nat} {xs : Array Value} {sps : List Sp} {bel : List (Code × Pos)} {s : Shared} {own past : Option Value} {RX : Result → Shared → Prop} (hz : xs.size = nn) (h16 : nn ≤ 16) :
    SpOK ⟨VL w kt [1100, 1099] N t [] sps bel, s.heap, s.drawn, s.os, own, past, RX⟩ (lenS t (lst xs cv) nn) := by
  intro κ c p p' s₁ R _ hg hkeep hsz hst hpr hR
  have hl : s₁.heap.IsList 1099 xs := ⟨lst xs cv, hpr _ (.head _), rfl, cv, rfl⟩
  have ht : s₁.toks = t + 8 + 1837 := hst
  refine here (fun A => code_len hl (by rw [hz]; omega) ?_)
  have e : Value.int (xs.size : Int) (s₁.toks + 1) = .int (Int.ofNat nn) (t + 9 + 1837) := by rw [hz, ht]; congr 1
  rw [e]
  refine hR _ ⟨(Nat.add_zero _).symm, ?_, fun _ h => (nomatch h), fun _ _ h => by simp at h, fun _ _ _ e => e, rfl, rfl, rfl⟩
  show s₁.toks + 1 + 1 = t + 10 + 1837
  omega
theorem sp_le {w : World} {kt : PySem.W.X.KT} {N t a nn : Nat} {q : Bool} {sps : List Sp} {bel : List (Code × Pos)} {s : Shared} {own past : Option Value} {RX : Result → Shared → Prop} (hq : decide (a ≤ nn) = q) :
    SpOK ⟨VL w kt [1100, 1099] N t [] sps bel, s.heap, s.drawn, s.os, own, past, RX⟩ (leS t a nn q) := by
  intro κ c p p' s₁ R _ hg hkeep hsz hst hpr hR
  refine here (fun A => code_le (q := q) ?_ ?_)
  · rw [← hq]
    exact decide_eq_decide.mpr Int.ofNat_le
  · exact hR _ ⟨(Nat.add_zero _).symm, hst, fun _ h => (nomatch h), fun _ _ h => by simp at h, fun _ _ _ e => e, rfl, rfl, rfl⟩
theorem draw_of {st : List Code} {w : World} {uu t tb ub nn cv a n iE m ta : Nat} {q : Bool} {xs : Array Value} {fr : Obj} {v : Value} {os : List Nat}
    (chk : ∀ (N : Nat) (bel : List (Code × Pos)) (p : Pos), (bel.map fun x => x.1) = st ++ [cc] → (runE (VL w (kt2 w.params uu) [1100, 1099] (N + 1090) t [] [lenS t (lst xs cv) nn, leS t (a + 1) nn q] bel) n [(0, box (a + 1) ub), (1, lst xs cv), (2, fr)] (.ret v) 1 iE (.call (.ref 1083) ⟨[.ref 1100, iv m (ta + 1837)], []⟩) p [] (DD (.call (.ref 1083) ⟨[.ref 1100, iv m (ta + 1837)], []⟩)) (mkT [box a tb, lst xs cv] 0 .nil) 0 0 0 os .nil).ob.left =
      (runE (VL w (kt2 w.params uu) [1100, 1099] (N + 1090) t [] [lenS t (lst xs cv) nn, leS t (a + 1) nn q] bel) n [(0, box (a + 1) ub), (1, lst xs cv), (2, fr)] (.ret v) 1 iE (.call (.ref 1083) ⟨[.ref 1100, iv m (ta + 1837)], []⟩) p [] (DD (.call (.ref 1083) ⟨[.ref 1100, iv m (ta + 1837)], []⟩)) (mkT [box a tb, lst xs cv] 0 .nil) 0 0 0 os .nil).ob.right)
    (hz : xs.size = nn) (h16 : nn ≤ 16) (hq : decide (a + 1 ≤ nn) = q) :
    CallOK st w (kt2 w.params uu) (.call (.ref 1083) ⟨[.ref 1100, iv m (ta + 1837)], []⟩) (t + 1837) (t + iE + 1837) [(1100, box a tb)] [(1099, lst xs cv)] v [(1100, box (a + 1) ub)] (fun _ => [fr]) :=
  call_of (objs' := [box (a + 1) ub, lst xs cv]) (new := fun _ => [fr]) chk (by kernel_rfl) (fa_cons (.inl (by kernel_rfl)) <| fa_cons (.inl (by kernel_rfl)) <| fa_nil) (by decide) (fun x h => h) rfl rfl
    (fun x h => by
      rcases List.mem_singleton.mp h with rfl
      exact .head _)
    (fun j b o h1 h2 h3 => by
      match j, h1, h2 with
      | 0, h1, h2 =>
        have : (1100 : Nat) = b := by simpa using h1
        exact absurd this (h3 _ (.head _))
      | 1, h1, h2 => exact h2
      | j + 2, h1, h2 => simp at h1)
    (fun _ => rfl)
    (fun N j o h => by
      match j, h with
      | 0, h => cases h; exact .head _
      | 1, h => cases h; exact .tail _ (.head _)
      | j + 2, h => simp at h)
    (fun N j o h => by
      match j, h with
      | 0, h => cases h; exact .tail _ (.tail _ (.head _))
      | j + 1, h => simp at h)
    trivial (fa_cons (fun N s bel own past RX hk => sp_len hz h16) <| fa_cons (fun N s bel own past RX hk => sp_le hq) <| fa_nil) (.inl ⟨1100, .head _, by decide⟩)
theorem fmod_ex (a : Int) (m : Nat) (hm : 0 < m) : ∃ r, r < m ∧ Int.fmod a (Int.ofNat m) = Int.ofNat r := by
  have hm' : (0 : Int) < (Int.ofNat m) := by simpa using hm
  have h1 := Int.fmod_nonneg_of_pos a hm'
  have h2 := Int.fmod_lt_of_pos a hm'
  obtain ⟨r, hr⟩ := Int.eq_ofNat_of_zero_le h1
  refine ⟨r, ?_, hr⟩
  rw [hr] at h2
  exact Int.ofNat_lt.mp h2
noncomputable def DrawOK (st : List Code) (w : World) (uu k m : Nat) (xs : Array Value) (cv : Nat) : Prop := ∀ t ta tb : Nat, ∃ r, r < m ∧ ∃ t1 ur ub fr, t ≤ t1 ∧
  CallOK st w (kt2 w.params uu) (.call (.ref 1083) ⟨[.ref 1100, iv m (ta + 1837)], []⟩) (t + 1837) (t1 + 1837) [(1100, box k tb)] [(1099, lst xs cv)] (iv r (ur + 1837)) [(1100, box (k + 1) ub)] (fun _ => [fr])
theorem draw0 {w : World} {uu cv : Nat} {xs : Array Value} (hx : ∀ v ∈ xs, ∃ i t, v = Value.int i t) (h16 : xs.size ≤ 16) : DrawOK [lawCode] w uu 0 2 xs cv := by
  intro t ta tb
  by_cases h : 0 < xs.size
  · obtain ⟨l⟩ := xs
    obtain _ | ⟨y0, l⟩ := l
    · simp at h
    obtain ⟨i, tz, rfl⟩ := hx y0 (by simp)
    have hq : decide (0 + 1 ≤ (Array.mk (.int i tz :: l) : Array Value).size) = true := decide_eq_true h
    cases i with
    | ofNat z =>
      obtain ⟨r, hr, e⟩ := fmod_ex (Int.ofNat z) 2 (by decide)
      have C := (draw_of (a := 0) (fun N bel p hb => by obtain ⟨p1, p2, rfl⟩ := bel2 hb; exact cs_RD.1 w tb ta t cv _ z tz  l uu N p1 p2 p) rfl h16 hq)
      rw [e] at C
      exact ⟨r, hr, _, _, _, _, Nat.le_add_right _ _, C⟩
    | negSucc z =>
      cases z with
      | zero =>
        obtain ⟨r, hr, e⟩ := fmod_ex (-(Int.negSucc 0)) 2 (by decide)
        have C := (draw_of (a := 0) (fun N bel p hb => by obtain ⟨p1, p2, rfl⟩ := bel2 hb; exact cs_RD.2.2.1 w tb ta t cv _ 0 tz  l uu N p1 p2 p) rfl h16 hq)
        rw [e] at C
        exact ⟨r, hr, _, _, _, _, Nat.le_add_right _ _, C⟩
      | succ z =>
        obtain ⟨r, hr, e⟩ := fmod_ex (-(Int.negSucc (Nat.succ z))) 2 (by decide)
        have C := (draw_of (a := 0) (fun N bel p hb => by obtain ⟨p1, p2, rfl⟩ := bel2 hb; exact cs_RD.2.1 w tb ta t cv _ z tz  l uu N p1 p2 p) rfl h16 hq)
        rw [e] at C
        exact ⟨r, hr, _, _, _, _, Nat.le_add_right _ _, C⟩
  · exact ⟨1, by decide, _, _, _, _, Nat.le_add_right _ _, (draw_of (a := 0) (fun N bel p hb => by obtain ⟨p1, p2, rfl⟩ := bel2 hb; exact cs_RD.2.2.2.1 w tb ta t cv _ xs uu N p1 p2 p) rfl h16 (decide_eq_false h))⟩
theorem draw1 {it ac : Value} {la : Nat} {w : World} {uu cv : Nat} {xs : Array Value} (hx : ∀ v ∈ xs, ∃ i t, v = Value.int i t) (h16 : xs.size ≤ 16) : DrawOK [compC it ac la, lawCode] w uu 1 2 xs cv := by
  intro t ta tb
  by_cases h : 1 < xs.size
  · obtain ⟨l⟩ := xs
    obtain _ | ⟨y0, l⟩ := l
    · simp at h
    obtain _ | ⟨y1, l⟩ := l
    · simp at h
    obtain ⟨i, tz, rfl⟩ := hx y1 (by simp)
    have hq : decide (1 + 1 ≤ (Array.mk (y0 :: .int i tz :: l) : Array Value).size) = true := decide_eq_true h
    cases i with
    | ofNat z =>
      obtain ⟨r, hr, e⟩ := fmod_ex (Int.ofNat z) 2 (by decide)
      have C := (draw_of (a := 1) (fun N bel p hb => by obtain ⟨p0, p1, p2, rfl⟩ := bel3 hb; exact cs_RD.2.2.2.2.1 w tb ta t cv _ z tz y0 l uu N it ac la p0 p1 p2 p) rfl h16 hq)
      rw [e] at C
      exact ⟨r, hr, _, _, _, _, Nat.le_add_right _ _, C⟩
    | negSucc z =>
      cases z with
      | zero =>
        obtain ⟨r, hr, e⟩ := fmod_ex (-(Int.negSucc 0)) 2 (by decide)
        have C := (draw_of (a := 1) (fun N bel p hb => by obtain ⟨p0, p1, p2, rfl⟩ := bel3 hb; exact cs_RD.2.2.2.2.2.2.1 w tb ta t cv _ 0 tz y0 l uu N it ac la p0 p1 p2 p) rfl h16 hq)
        rw [e] at C
        exact ⟨r, hr, _, _, _, _, Nat.le_add_right _ _, C⟩
      | succ z =>
        obtain ⟨r, hr, e⟩ := fmod_ex (-(Int.negSucc (Nat.succ z))) 2 (by decide)
        have C := (draw_of (a := 1) (fun N bel p hb => by obtain ⟨p0, p1, p2, rfl⟩ := bel3 hb; exact cs_RD.2.2.2.2.2.1 w tb ta t cv _ z tz y0 l uu N it ac la p0 p1 p2 p) rfl h16 hq)
        rw [e] at C
        exact ⟨r, hr, _, _, _, _, Nat.le_add_right _ _, C⟩
  · exact ⟨0, by decide, _, _, _, _, Nat.le_add_right _ _, (draw_of (a := 1) (fun N bel p hb => by obtain ⟨p0, p1, p2, rfl⟩ := bel3 hb; exact cs_RD.2.2.2.2.2.2.2.1 w tb ta t cv _ xs uu N it ac la p0 p1 p2 p) rfl h16 (decide_eq_false h))⟩
theorem draw2 {it ac : Value} {la : Nat} {w : World} {uu cv : Nat} {xs : Array Value} (hx : ∀ v ∈ xs, ∃ i t, v = Value.int i t) (h16 : xs.size ≤ 16) : DrawOK [compC it ac la, lawCode] w uu 2 2 xs cv := by
  intro t ta tb
  by_cases h : 2 < xs.size
  · obtain ⟨l⟩ := xs
    obtain _ | ⟨y0, l⟩ := l
    · simp at h
    obtain _ | ⟨y1, l⟩ := l
    · simp at h
    obtain _ | ⟨y2, l⟩ := l
    · simp at h
    obtain ⟨i, tz, rfl⟩ := hx y2 (by simp)
    have hq : decide (2 + 1 ≤ (Array.mk (y0 :: y1 :: .int i tz :: l) : Array Value).size) = true := decide_eq_true h
    cases i with
    | ofNat z =>
      obtain ⟨r, hr, e⟩ := fmod_ex (Int.ofNat z) 2 (by decide)
      have C := (draw_of (a := 2) (fun N bel p hb => by obtain ⟨p0, p1, p2, rfl⟩ := bel3 hb; exact cs_RD.2.2.2.2.2.2.2.2.1 w tb ta t cv _ z tz y0 y1 l uu N it ac la p0 p1 p2 p) rfl h16 hq)
      rw [e] at C
      exact ⟨r, hr, _, _, _, _, Nat.le_add_right _ _, C⟩
    | negSucc z =>
      cases z with
      | zero =>
        obtain ⟨r, hr, e⟩ := fmod_ex (-(Int.negSucc 0)) 2 (by decide)
        have C := (draw_of (a := 2) (fun N bel p hb => by obtain ⟨p0, p1, p2, rfl⟩ := bel3 hb; exact cs_RD.2.2.2.2.2.2.2.2.2.2.1 w tb ta t cv _ 0 tz y0 y1 l uu N it ac la p0 p1 p2 p) rfl h16 hq)
        rw [e] at C
        exact ⟨r, hr, _, _, _, _, Nat.le_add_right _ _, C⟩
      | succ z =>
        obtain ⟨r, hr, e⟩ := fmod_ex (-(Int.negSucc (Nat.succ z))) 2 (by decide)
        have C := (draw_of (a := 2) (fun N bel p hb => by obtain ⟨p0, p1, p2, rfl⟩ := bel3 hb; exact cs_RD.2.2.2.2.2.2.2.2.2.1 w tb ta t cv _ z tz y0 y1 l uu N it ac la p0 p1 p2 p) rfl h16 hq)
        rw [e] at C
        exact ⟨r, hr, _, _, _, _, Nat.le_add_right _ _, C⟩
  · exact ⟨1, by decide, _, _, _, _, Nat.le_add_right _ _, (draw_of (a := 2) (fun N bel p hb => by obtain ⟨p0, p1, p2, rfl⟩ := bel3 hb; exact cs_RD.2.2.2.2.2.2.2.2.2.2.2.1 w tb ta t cv _ xs uu N it ac la p0 p1 p2 p) rfl h16 (decide_eq_false h))⟩
theorem draw3 {w : World} {uu cv : Nat} {xs : Array Value} (hx : ∀ v ∈ xs, ∃ i t, v = Value.int i t) (h16 : xs.size ≤ 16) : DrawOK [lawCode] w uu 3 3 xs cv := by
  intro t ta tb
  by_cases h : 3 < xs.size
  · obtain ⟨l⟩ := xs
    obtain _ | ⟨y0, l⟩ := l
    · simp at h
    obtain _ | ⟨y1, l⟩ := l
    · simp at h
    obtain _ | ⟨y2, l⟩ := l
    · simp at h
    obtain _ | ⟨y3, l⟩ := l
    · simp at h
    obtain ⟨i, tz, rfl⟩ := hx y3 (by simp)
    have hq : decide (3 + 1 ≤ (Array.mk (y0 :: y1 :: y2 :: .int i tz :: l) : Array Value).size) = true := decide_eq_true h
    cases i with
    | ofNat z =>
      obtain ⟨r, hr, e⟩ := fmod_ex (Int.ofNat z) 3 (by decide)
      have C := (draw_of (a := 3) (fun N bel p hb => by obtain ⟨p1, p2, rfl⟩ := bel2 hb; exact cs_RD.2.2.2.2.2.2.2.2.2.2.2.2.1 w tb ta t cv _ z tz y0 y1 y2 l uu N p1 p2 p) rfl h16 hq)
      rw [e] at C
      exact ⟨r, hr, _, _, _, _, Nat.le_add_right _ _, C⟩
    | negSucc z =>
      cases z with
      | zero =>
        obtain ⟨r, hr, e⟩ := fmod_ex (-(Int.negSucc 0)) 3 (by decide)
        have C := (draw_of (a := 3) (fun N bel p hb => by obtain ⟨p1, p2, rfl⟩ := bel2 hb; exact cs_RD.2.2.2.2.2.2.2.2.2.2.2.2.2.2.1 w tb ta t cv _ 0 tz y0 y1 y2 l uu N p1 p2 p) rfl h16 hq)
        rw [e] at C
        exact ⟨r, hr, _, _, _, _, Nat.le_add_right _ _, C⟩
      | succ z =>
        obtain ⟨r, hr, e⟩ := fmod_ex (-(Int.negSucc (Nat.succ z))) 3 (by decide)
        have C := (draw_of (a := 3) (fun N bel p hb => by obtain ⟨p1, p2, rfl⟩ := bel2 hb; exact cs_RD.2.2.2.2.2.2.2.2.2.2.2.2.2.1 w tb ta t cv _ z tz y0 y1 y2 l uu N p1 p2 p) rfl h16 hq)
        rw [e] at C
        exact ⟨r, hr, _, _, _, _, Nat.le_add_right _ _, C⟩
  · exact ⟨2, by decide, _, _, _, _, Nat.le_add_right _ _, (draw_of (a := 3) (fun N bel p hb => by obtain ⟨p1, p2, rfl⟩ := bel2 hb; exact cs_RD.2.2.2.2.2.2.2.2.2.2.2.2.2.2.2.1 w tb ta t cv _ xs uu N p1 p2 p) rfl h16 (decide_eq_false h))⟩
theorem draw4 {w : World} {uu cv : Nat} {xs : Array Value} (hx : ∀ v ∈ xs, ∃ i t, v = Value.int i t) (h16 : xs.size ≤ 16) : DrawOK [lawCode] w uu 4 3 xs cv := by
  intro t ta tb
  by_cases h : 4 < xs.size
  · obtain ⟨l⟩ := xs
    obtain _ | ⟨y0, l⟩ := l
    · simp at h
    obtain _ | ⟨y1, l⟩ := l
    · simp at h
    obtain _ | ⟨y2, l⟩ := l
    · simp at h
    obtain _ | ⟨y3, l⟩ := l
    · simp at h
    obtain _ | ⟨y4, l⟩ := l
    · simp at h
    obtain ⟨i, tz, rfl⟩ := hx y4 (by simp)
    have hq : decide (4 + 1 ≤ (Array.mk (y0 :: y1 :: y2 :: y3 :: .int i tz :: l) : Array Value).size) = true := decide_eq_true h
    cases i with
    | ofNat z =>
      obtain ⟨r, hr, e⟩ := fmod_ex (Int.ofNat z) 3 (by decide)
      have C := (draw_of (a := 4) (fun N bel p hb => by obtain ⟨p1, p2, rfl⟩ := bel2 hb; exact cs_RD.2.2.2.2.2.2.2.2.2.2.2.2.2.2.2.2.1 w tb ta t cv _ z tz y0 y1 y2 y3 l uu N p1 p2 p) rfl h16 hq)
      rw [e] at C
      exact ⟨r, hr, _, _, _, _, Nat.le_add_right _ _, C⟩
    | negSucc z =>
      cases z with
      | zero =>
        obtain ⟨r, hr, e⟩ := fmod_ex (-(Int.negSucc 0)) 3 (by decide)
        have C := (draw_of (a := 4) (fun N bel p hb => by obtain ⟨p1, p2, rfl⟩ := bel2 hb; exact cs_RD.2.2.2.2.2.2.2.2.2.2.2.2.2.2.2.2.2.2.1 w tb ta t cv _ 0 tz y0 y1 y2 y3 l uu N p1 p2 p) rfl h16 hq)
        rw [e] at C
        exact ⟨r, hr, _, _, _, _, Nat.le_add_right _ _, C⟩
      | succ z =>
        obtain ⟨r, hr, e⟩ := fmod_ex (-(Int.negSucc (Nat.succ z))) 3 (by decide)
        have C := (draw_of (a := 4) (fun N bel p hb => by obtain ⟨p1, p2, rfl⟩ := bel2 hb; exact cs_RD.2.2.2.2.2.2.2.2.2.2.2.2.2.2.2.2.2.1 w tb ta t cv _ z tz y0 y1 y2 y3 l uu N p1 p2 p) rfl h16 hq)
        rw [e] at C
        exact ⟨r, hr, _, _, _, _, Nat.le_add_right _ _, C⟩
  · exact ⟨0, by decide, _, _, _, _, Nat.le_add_right _ _, (draw_of (a := 4) (fun N bel p hb => by obtain ⟨p1, p2, rfl⟩ := bel2 hb; exact cs_RD.2.2.2.2.2.2.2.2.2.2.2.2.2.2.2.2.2.2.2.1 w tb ta t cv _ xs uu N p1 p2 p) rfl h16 (decide_eq_false h))⟩
theorem draw5 {w : World} {uu cv : Nat} {xs : Array Value} (hx : ∀ v ∈ xs, ∃ i t, v = Value.int i t) (h16 : xs.size ≤ 16) : DrawOK [lawCode] w uu 5 2 xs cv := by
  intro t ta tb
  by_cases h : 5 < xs.size
  · obtain ⟨l⟩ := xs
    obtain _ | ⟨y0, l⟩ := l
    · simp at h
    obtain _ | ⟨y1, l⟩ := l
    · simp at h
    obtain _ | ⟨y2, l⟩ := l
    · simp at h
    obtain _ | ⟨y3, l⟩ := l
    · simp at h
    obtain _ | ⟨y4, l⟩ := l
    · simp at h
    obtain _ | ⟨y5, l⟩ := l
    · simp at h
    obtain ⟨i, tz, rfl⟩ := hx y5 (by simp)
    have hq : decide (5 + 1 ≤ (Array.mk (y0 :: y1 :: y2 :: y3 :: y4 :: .int i tz :: l) : Array Value).size) = true := decide_eq_true h
    cases i with
    | ofNat z =>
      obtain ⟨r, hr, e⟩ := fmod_ex (Int.ofNat z) 2 (by decide)
      have C := (draw_of (a := 5) (fun N bel p hb => by obtain ⟨p1, p2, rfl⟩ := bel2 hb; exact cs_RD.2.2.2.2.2.2.2.2.2.2.2.2.2.2.2.2.2.2.2.2.1 w tb ta t cv _ z tz y0 y1 y2 y3 y4 l uu N p1 p2 p) rfl h16 hq)
      rw [e] at C
      exact ⟨r, hr, _, _, _, _, Nat.le_add_right _ _, C⟩
    | negSucc z =>
      cases z with
      | zero =>
        obtain ⟨r, hr, e⟩ := fmod_ex (-(Int.negSucc 0)) 2 (by decide)
        have C := (draw_of (a := 5) (fun N bel p hb => by obtain ⟨p1, p2, rfl⟩ := bel2 hb; exact cs_RD.2.2.2.2.2.2.2.2.2.2.2.2.2.2.2.2.2.2.2.2.2.2.1 w tb ta t cv _ 0 tz y0 y1 y2 y3 y4 l uu N p1 p2 p) rfl h16 hq)
        rw [e] at C
        exact ⟨r, hr, _, _, _, _, Nat.le_add_right _ _, C⟩
      | succ z =>
        obtain ⟨r, hr, e⟩ := fmod_ex (-(Int.negSucc (Nat.succ z))) 2 (by decide)
        have C := (draw_of (a := 5) (fun N bel p hb => by obtain ⟨p1, p2, rfl⟩ := bel2 hb; exact cs_RD.2.2.2.2.2.2.2.2.2.2.2.2.2.2.2.2.2.2.2.2.2.1 w tb ta t cv _ z tz y0 y1 y2 y3 y4 l uu N p1 p2 p) rfl h16 hq)
        rw [e] at C
        exact ⟨r, hr, _, _, _, _, Nat.le_add_right _ _, C⟩
  · exact ⟨1, by decide, _, _, _, _, Nat.le_add_right _ _, (draw_of (a := 5) (fun N bel p hb => by obtain ⟨p1, p2, rfl⟩ := bel2 hb; exact cs_RD.2.2.2.2.2.2.2.2.2.2.2.2.2.2.2.2.2.2.2.2.2.2.2.1 w tb ta t cv _ xs uu N p1 p2 p) rfl h16 (decide_eq_false h))⟩
theorem draw6 {w : World} {uu cv : Nat} {xs : Array Value} (hx : ∀ v ∈ xs, ∃ i t, v = Value.int i t) (h16 : xs.size ≤ 16) : DrawOK [lawCode] w uu 6 2 xs cv := by
  intro t ta tb
  by_cases h : 6 < xs.size
  · obtain ⟨l⟩ := xs
    obtain _ | ⟨y0, l⟩ := l
    · simp at h
    obtain _ | ⟨y1, l⟩ := l
    · simp at h
    obtain _ | ⟨y2, l⟩ := l
    · simp at h
    obtain _ | ⟨y3, l⟩ := l
    · simp at h
    obtain _ | ⟨y4, l⟩ := l
    · simp at h
    obtain _ | ⟨y5, l⟩ := l
    · simp at h
    obtain _ | ⟨y6, l⟩ := l
    · simp at h
    obtain ⟨i, tz, rfl⟩ := hx y6 (by simp)
    have hq : decide (6 + 1 ≤ (Array.mk (y0 :: y1 :: y2 :: y3 :: y4 :: y5 :: .int i tz :: l) : Array Value).size) = true := decide_eq_true h
    cases i with
    | ofNat z =>
      obtain ⟨r, hr, e⟩ := fmod_ex (Int.ofNat z) 2 (by decide)
      have C := (draw_of (a := 6) (fun N bel p hb => by obtain ⟨p1, p2, rfl⟩ := bel2 hb; exact cs_RD.2.2.2.2.2.2.2.2.2.2.2.2.2.2.2.2.2.2.2.2.2.2.2.2.1 w tb ta t cv _ z tz y0 y1 y2 y3 y4 y5 l uu N p1 p2 p) rfl h16 hq)
      rw [e] at C
      exact ⟨r, hr, _, _, _, _, Nat.le_add_right _ _, C⟩
    | negSucc z =>
      cases z with
      | zero =>
        obtain ⟨r, hr, e⟩ := fmod_ex (-(Int.negSucc 0)) 2 (by decide)
        have C := (draw_of (a := 6) (fun N bel p hb => by obtain ⟨p1, p2, rfl⟩ := bel2 hb; exact cs_RD.2.2.2.2.2.2.2.2.2.2.2.2.2.2.2.2.2.2.2.2.2.2.2.2.2.2.1 w tb ta t cv _ 0 tz y0 y1 y2 y3 y4 y5 l uu N p1 p2 p) rfl h16 hq)
        rw [e] at C
        exact ⟨r, hr, _, _, _, _, Nat.le_add_right _ _, C⟩
      | succ z =>
        obtain ⟨r, hr, e⟩ := fmod_ex (-(Int.negSucc (Nat.succ z))) 2 (by decide)
        have C := (draw_of (a := 6) (fun N bel p hb => by obtain ⟨p1, p2, rfl⟩ := bel2 hb; exact cs_RD.2.2.2.2.2.2.2.2.2.2.2.2.2.2.2.2.2.2.2.2.2.2.2.2.2.1 w tb ta t cv _ z tz y0 y1 y2 y3 y4 y5 l uu N p1 p2 p) rfl h16 hq)
        rw [e] at C
        exact ⟨r, hr, _, _, _, _, Nat.le_add_right _ _, C⟩
  · exact ⟨0, by decide, _, _, _, _, Nat.le_add_right _ _, (draw_of (a := 6) (fun N bel p hb => by obtain ⟨p1, p2, rfl⟩ := bel2 hb; exact cs_RD.2.2.2.2.2.2.2.2.2.2.2.2.2.2.2.2.2.2.2.2.2.2.2.2.2.2.2.1 w tb ta t cv _ xs uu N p1 p2 p) rfl h16 (decide_eq_false h))⟩
theorem draw7 {w : World} {uu cv : Nat} {xs : Array Value} (hx : ∀ v ∈ xs, ∃ i t, v = Value.int i t) (h16 : xs.size ≤ 16) : DrawOK [lawCode] w uu 7 3 xs cv := by
  intro t ta tb
  by_cases h : 7 < xs.size
  · obtain ⟨l⟩ := xs
    obtain _ | ⟨y0, l⟩ := l
    · simp at h
    obtain _ | ⟨y1, l⟩ := l
    · simp at h
    obtain _ | ⟨y2, l⟩ := l
    · simp at h
    obtain _ | ⟨y3, l⟩ := l
    · simp at h
    obtain _ | ⟨y4, l⟩ := l
    · simp at h
    obtain _ | ⟨y5, l⟩ := l
    · simp at h
    obtain _ | ⟨y6, l⟩ := l
    · simp at h
    obtain _ | ⟨y7, l⟩ := l
    · simp at h
    obtain ⟨i, tz, rfl⟩ := hx y7 (by simp)
    have hq : decide (7 + 1 ≤ (Array.mk (y0 :: y1 :: y2 :: y3 :: y4 :: y5 :: y6 :: .int i tz :: l) : Array Value).size) = true := decide_eq_true h
    cases i with
    | ofNat z =>
      obtain ⟨r, hr, e⟩ := fmod_ex (Int.ofNat z) 3 (by decide)
      have C := (draw_of (a := 7) (fun N bel p hb => by obtain ⟨p1, p2, rfl⟩ := bel2 hb; exact cs_RD.2.2.2.2.2.2.2.2.2.2.2.2.2.2.2.2.2.2.2.2.2.2.2.2.2.2.2.2.1 w tb ta t cv _ z tz y0 y1 y2 y3 y4 y5 y6 l uu N p1 p2 p) rfl h16 hq)
      rw [e] at C
      exact ⟨r, hr, _, _, _, _, Nat.le_add_right _ _, C⟩
    | negSucc z =>
      cases z with
      | zero =>
        obtain ⟨r, hr, e⟩ := fmod_ex (-(Int.negSucc 0)) 3 (by decide)
        have C := (draw_of (a := 7) (fun N bel p hb => by obtain ⟨p1, p2, rfl⟩ := bel2 hb; exact cs_RD.2.2.2.2.2.2.2.2.2.2.2.2.2.2.2.2.2.2.2.2.2.2.2.2.2.2.2.2.2.2.1 w tb ta t cv _ 0 tz y0 y1 y2 y3 y4 y5 y6 l uu N p1 p2 p) rfl h16 hq)
        rw [e] at C
        exact ⟨r, hr, _, _, _, _, Nat.le_add_right _ _, C⟩
      | succ z =>
        obtain ⟨r, hr, e⟩ := fmod_ex (-(Int.negSucc (Nat.succ z))) 3 (by decide)
        have C := (draw_of (a := 7) (fun N bel p hb => by obtain ⟨p1, p2, rfl⟩ := bel2 hb; exact cs_RD.2.2.2.2.2.2.2.2.2.2.2.2.2.2.2.2.2.2.2.2.2.2.2.2.2.2.2.2.2.1 w tb ta t cv _ z tz y0 y1 y2 y3 y4 y5 y6 l uu N p1 p2 p) rfl h16 hq)
        rw [e] at C
        exact ⟨r, hr, _, _, _, _, Nat.le_add_right _ _, C⟩
  · exact ⟨1, by decide, _, _, _, _, Nat.le_add_right _ _, (draw_of (a := 7) (fun N bel p hb => by obtain ⟨p1, p2, rfl⟩ := bel2 hb; exact cs_RD.2.2.2.2.2.2.2.2.2.2.2.2.2.2.2.2.2.2.2.2.2.2.2.2.2.2.2.2.2.2.2 w tb ta t cv _ xs uu N p1 p2 p) rfl h16 (decide_eq_false h))⟩
end Mine
end
section
set_option maxRecDepth 100000
open PySem PySem.W PySem.Calls PyProof.Rows
open PySem.Sem (wp)
namespace Mine
noncomputable section
noncomputable abbrev okT : Result := .ok (.ret (.bool true))
noncomputable def finB (exp : List (Nat × Obj)) (c₂ : Code) (mE iE : Nat) : Ty := fun c p κ t T m i o os ob => ⟨⟨c, p, κ, t, T, m, i⟩, o, os,
  match κ with
  | [g] => match t with
    | .pure fin => match fin with
      | .again c' => .tr (.pure (.again c')) (.pure (.again c₂)) (.tr (.pure (.again g.c)) (.pure (.again cc)) (.tr (.at g.p fun _ => .raise .none) (.at default fun _ => .raise .none) (.tr (g.k okT) (.pure (.done (.ret (.bool true)))) (.eq m mE (.eq i iE (hold T exp ob))))))
      | .done _ => .bad
    | _ => .bad
  | _ => .bad⟩
noncomputable def runB (V : SV) (n : Nat) (exp : List (Nat × Obj)) (c₂ : Code) (mE iE : Nat) : Ty := run2 V n (finB exp c₂ mE iE)
theorem runB_sound {X : Env0} (O : X.OK) {n : Nat} {c : Code} {p : Pos} {t : Sem Fin} {T : BT} {m i o : Nat} {os : List Nat} {exp : List (Nat × Obj)} {c₂ : Code} {mE iE : Nat}
    (h : (runB X.V n exp c₂ mE iE c p [] t T m i o os .nil).ob.left = (runB X.V n exp c₂ mE iE c p [] t T m i o os .nil).ob.right) (hq : c₂.quiet = true)
    (hR : ∀ s' T' p', Rep X T' mE iE s' → (∀ x ∈ exp, T'.get x.1 = some x.2) → wpCode (model X.V.prog X.V.w) ⟨c₂, none, X.own, (cc, default) :: X.V.bel, X.past⟩ (fun r s'' => r = okT ∧ X.R r s'') p' s') : G X c p [] t T m i := by
  have ho := Ob.holds_of _ h
  unfold runB at h ho
  obtain ⟨c₁, p₁, κ₁, t₁, T₁, m₁, i₁, o₁, os₁, ob₁, e, h₁⟩ := run2_sound O n _ _ _ _ _ _ _ _ _ _ _ ho
  rw [e] at ho
  unfold finB at ho
  match κ₁, t₁, ho, h₁ with
  | [g], .pure (.again c'), ho, h₁ =>
    obtain ⟨gk, gc, gp⟩ := g
    obtain ⟨e1, e2, e3, e4, e5, e6, h2⟩ := ho
    injection e1 with e1
    injection e1 with e1
    injection e2 with e2
    injection e2 with e2
    injection e3 with e3 _
    subst e1 e5 e6
    have e2 : gc = cc := e2
    have e3 : gp = default := e3
    subst e2 e3
    obtain ⟨h3, h4⟩ := hold_of _ _ h2
    refine (h₁ h3).2 fun s D => ?_
    rw [goal_eq, Sem.wp_pure]
    refine ⟨hq, ?_⟩
    refine wpCode_mono (fun r s'' hr => ?_) (hR s T₁ p₁ D h4)
    obtain ⟨rfl, hr⟩ := hr
    show Goal X [] cc (gk okT) default s''
    have e4 : gk okT = .pure (.done (.ret (.bool true))) := e4
    rw [e4, goal_eq, Sem.wp_pure]
    exact hr
  | [], _, ho, _ => exact ho.elim
  | _ :: _ :: _, _, ho, _ => exact ho.elim
  | [_], .pure (.done _), ho, _ => exact ho.elim
  | [_], .raise _, ho, _ => exact ho.elim
  | [_], .rule .., ho, _ => exact ho.elim
  | [_], .at .., ho, _ => exact ho.elim
  | [_], .point .., ho, _ => exact ho.elim
  | [_], .ask .., ho, _ => exact ho.elim
  | [_], .load .., ho, _ => exact ho.elim
  | [_], .alloc .., ho, _ => exact ho.elim
  | [_], .update .., ho, _ => exact ho.elim
  | [_], .fresh .., ho, _ => exact ho.elim
  | [_], .handled .., ho, _ => exact ho.elim
  | [_], .stack .., ho, _ => exact ho.elim
  | [_], .call .., ho, _ => exact ho.elim
  | [_], .unsupported .., ho, _ => exact ho.elim
  | [_], .finish .., ho, _ => exact ho.elim
  | [_], .register .., ho, _ => exact ho.elim
  | [_], .loadIfAlive .., ho, _ => exact ho.elim
  | [_], .choose .., ho, _ => exact ho.elim
  | [_], .os .., ho, _ => exact ho.elim
  | [_], .newGen .., ho, _ => exact ho.elim
  | [_], .genState .., ho, _ => exact ho.elim
  | [_], .resume .., ho, _ => exact ho.elim
  | [_], .yield .., ho, _ => exact ho.elim
  | [_], .fork .., ho, _ => exact ho.elim
  | [_], .thread .., ho, _ => exact ho.elim
  | [_], .await .., ho, _ => exact ho.elim
theorem wp_func {w : World} {R : Result → Shared → Prop} {p : Pos} {s : Shared}
    (h : wp (model PP w) Γf (execs lawBody lawEnv) (fun g _ s' => ∃ v, g = .ret v ∧ R (.ok (.ret v)) s') (fun _ _ _ => False) p s) : wpCode (model PP w) Γf R p s := by
  refine (wpCode_iff_wp _ _ _ _ _).mpr ?_
  show wp (model PP w) Γf (point >>= fun _ => (execs lawBody lawEnv).onRaise (leaving lawEnv) >>= fun f => match f with | .ret v => ret v | _ => ret .none) _ _ p s
  rw [Sem.wp_bind', show point = (Sem.point [] .pure : Sem Unit) from rfl, Sem.wp_point, Sem.wp_pure, Sem.wp_bind', Sem.wp_onRaise]
  refine Sem.wp_mono _ _ _ (fun f p' s' hf => ?_) (fun _ _ _ h => h.elim) _ _ h
  obtain ⟨v, rfl, hv⟩ := hf
  show wp (model PP w) Γf (Sem.pure (Fin.done (Flow.ret v))) _ _ p' s'
  rw [Sem.wp_pure]
  exact hv
end
end Mine
end
section
set_option maxRecDepth 100000
set_option linter.unusedVariables false
open PySem PySem.W PySem.Calls PyProof.Rows
open PySem.Sem (wp)
namespace Mine
noncomputable section
noncomputable def lcRun (w : World) (t : Nat) (ys : Array Value) (cv : Nat) (p1 p2 p : Pos) : St :=
  runE (VL w (kt w.params) [1098] 1099 t [] [] [(lawCode, p1), (cc, p2)]) 22 [(0, ⟨(.type "list"), none, (.seq ys 0), #[]⟩), (1, ⟨(.type "list"), none, (.seq ys cv), #[]⟩)] (.ret (.ref 1099)) 1 0 (.call (.type "list") ⟨[.ref 1098], []⟩) p [] (DD (.call (.type "list") ⟨[.ref 1098], []⟩)) (mkT [⟨(.type "list"), none, (.seq ys 0), #[]⟩] 0 .nil) 0 0 0 [4185477104708290879959104829644898204388353] .nil
theorem lc0 (w : World) (t : Nat) (p1 p2 p : Pos) : (lcRun w t (Array.mk []) 0 p1 p2 p).ob.left = (lcRun w t (Array.mk []) 0 p1 p2 p).ob.right := by kernel_rfl
theorem lc1 (w : World) (t : Nat) (y0 : Value) (p1 p2 p : Pos) : (lcRun w t (Array.mk [y0]) 1 p1 p2 p).ob.left = (lcRun w t (Array.mk [y0]) 1 p1 p2 p).ob.right := by kernel_rfl
theorem lc2 (w : World) (t : Nat) (y0 y1 : Value) (p1 p2 p : Pos) : (lcRun w t (Array.mk [y0, y1]) 1 p1 p2 p).ob.left = (lcRun w t (Array.mk [y0, y1]) 1 p1 p2 p).ob.right := by kernel_rfl
theorem lc3 (w : World) (t : Nat) (y0 y1 y2 : Value) (p1 p2 p : Pos) : (lcRun w t (Array.mk [y0, y1, y2]) 1 p1 p2 p).ob.left = (lcRun w t (Array.mk [y0, y1, y2]) 1 p1 p2 p).ob.right := by kernel_rfl
theorem lc4 (w : World) (t : Nat) (y0 y1 y2 y3 : Value) (p1 p2 p : Pos) : (lcRun w t (Array.mk [y0, y1, y2, y3]) 1 p1 p2 p).ob.left = (lcRun w t (Array.mk [y0, y1, y2, y3]) 1 p1 p2 p).ob.right := by kernel_rfl
theorem lc5 (w : World) (t : Nat) (y0 y1 y2 y3 y4 : Value) (p1 p2 p : Pos) : (lcRun w t (Array.mk [y0, y1, y2, y3, y4]) 1 p1 p2 p).ob.left = (lcRun w t (Array.mk [y0, y1, y2, y3, y4]) 1 p1 p2 p).ob.right := by kernel_rfl
theorem lc6 (w : World) (t : Nat) (y0 y1 y2 y3 y4 y5 : Value) (p1 p2 p : Pos) : (lcRun w t (Array.mk [y0, y1, y2, y3, y4, y5]) 1 p1 p2 p).ob.left = (lcRun w t (Array.mk [y0, y1, y2, y3, y4, y5]) 1 p1 p2 p).ob.right := by kernel_rfl
theorem lc7 (w : World) (t : Nat) (y0 y1 y2 y3 y4 y5 y6 : Value) (p1 p2 p : Pos) : (lcRun w t (Array.mk [y0, y1, y2, y3, y4, y5, y6]) 1 p1 p2 p).ob.left = (lcRun w t (Array.mk [y0, y1, y2, y3, y4, y5, y6]) 1 p1 p2 p).ob.right := by kernel_rfl
theorem lc8 (w : World) (t : Nat) (y0 y1 y2 y3 y4 y5 y6 y7 : Value) (p1 p2 p : Pos) : (lcRun w t (Array.mk [y0, y1, y2, y3, y4, y5, y6, y7]) 1 p1 p2 p).ob.left = (lcRun w t (Array.mk [y0, y1, y2, y3, y4, y5, y6, y7]) 1 p1 p2 p).ob.right := by kernel_rfl
theorem lc9 (w : World) (t : Nat) (y0 y1 y2 y3 y4 y5 y6 y7 y8 : Value) (p1 p2 p : Pos) : (lcRun w t (Array.mk [y0, y1, y2, y3, y4, y5, y6, y7, y8]) 1 p1 p2 p).ob.left = (lcRun w t (Array.mk [y0, y1, y2, y3, y4, y5, y6, y7, y8]) 1 p1 p2 p).ob.right := by kernel_rfl
theorem lc10 (w : World) (t : Nat) (y0 y1 y2 y3 y4 y5 y6 y7 y8 y9 : Value) (p1 p2 p : Pos) : (lcRun w t (Array.mk [y0, y1, y2, y3, y4, y5, y6, y7, y8, y9]) 1 p1 p2 p).ob.left = (lcRun w t (Array.mk [y0, y1, y2, y3, y4, y5, y6, y7, y8, y9]) 1 p1 p2 p).ob.right := by kernel_rfl
theorem lc11 (w : World) (t : Nat) (y0 y1 y2 y3 y4 y5 y6 y7 y8 y9 y10 : Value) (p1 p2 p : Pos) : (lcRun w t (Array.mk [y0, y1, y2, y3, y4, y5, y6, y7, y8, y9, y10]) 1 p1 p2 p).ob.left = (lcRun w t (Array.mk [y0, y1, y2, y3, y4, y5, y6, y7, y8, y9, y10]) 1 p1 p2 p).ob.right := by kernel_rfl
theorem lc12 (w : World) (t : Nat) (y0 y1 y2 y3 y4 y5 y6 y7 y8 y9 y10 y11 : Value) (p1 p2 p : Pos) : (lcRun w t (Array.mk [y0, y1, y2, y3, y4, y5, y6, y7, y8, y9, y10, y11]) 1 p1 p2 p).ob.left = (lcRun w t (Array.mk [y0, y1, y2, y3, y4, y5, y6, y7, y8, y9, y10, y11]) 1 p1 p2 p).ob.right := by kernel_rfl
theorem lc13 (w : World) (t : Nat) (y0 y1 y2 y3 y4 y5 y6 y7 y8 y9 y10 y11 y12 : Value) (p1 p2 p : Pos) : (lcRun w t (Array.mk [y0, y1, y2, y3, y4, y5, y6, y7, y8, y9, y10, y11, y12]) 1 p1 p2 p).ob.left = (lcRun w t (Array.mk [y0, y1, y2, y3, y4, y5, y6, y7, y8, y9, y10, y11, y12]) 1 p1 p2 p).ob.right := by kernel_rfl
theorem lc14 (w : World) (t : Nat) (y0 y1 y2 y3 y4 y5 y6 y7 y8 y9 y10 y11 y12 y13 : Value) (p1 p2 p : Pos) : (lcRun w t (Array.mk [y0, y1, y2, y3, y4, y5, y6, y7, y8, y9, y10, y11, y12, y13]) 1 p1 p2 p).ob.left = (lcRun w t (Array.mk [y0, y1, y2, y3, y4, y5, y6, y7, y8, y9, y10, y11, y12, y13]) 1 p1 p2 p).ob.right := by kernel_rfl
theorem lc15 (w : World) (t : Nat) (y0 y1 y2 y3 y4 y5 y6 y7 y8 y9 y10 y11 y12 y13 y14 : Value) (p1 p2 p : Pos) : (lcRun w t (Array.mk [y0, y1, y2, y3, y4, y5, y6, y7, y8, y9, y10, y11, y12, y13, y14]) 1 p1 p2 p).ob.left = (lcRun w t (Array.mk [y0, y1, y2, y3, y4, y5, y6, y7, y8, y9, y10, y11, y12, y13, y14]) 1 p1 p2 p).ob.right := by kernel_rfl
theorem lc16 (w : World) (t : Nat) (y0 y1 y2 y3 y4 y5 y6 y7 y8 y9 y10 y11 y12 y13 y14 y15 : Value) (p1 p2 p : Pos) : (lcRun w t (Array.mk [y0, y1, y2, y3, y4, y5, y6, y7, y8, y9, y10, y11, y12, y13, y14, y15]) 1 p1 p2 p).ob.left = (lcRun w t (Array.mk [y0, y1, y2, y3, y4, y5, y6, y7, y8, y9, y10, y11, y12, y13, y14, y15]) 1 p1 p2 p).ob.right := by kernel_rfl
theorem lc (w : World) (t : Nat) (ys : List Value) (h : ys.length ≤ 16) : ∃ cv, ∀ p1 p2 p, (lcRun w t (Array.mk ys) cv p1 p2 p).ob.left = (lcRun w t (Array.mk ys) cv p1 p2 p).ob.right := by
  match ys, h with
  | [], _ => exact ⟨0, fun p1 p2 p => lc0 w t p1 p2 p⟩
  | [y0], _ => exact ⟨1, fun p1 p2 p => lc1 w t y0 p1 p2 p⟩
  | [y0, y1], _ => exact ⟨1, fun p1 p2 p => lc2 w t y0 y1 p1 p2 p⟩
  | [y0, y1, y2], _ => exact ⟨1, fun p1 p2 p => lc3 w t y0 y1 y2 p1 p2 p⟩
  | [y0, y1, y2, y3], _ => exact ⟨1, fun p1 p2 p => lc4 w t y0 y1 y2 y3 p1 p2 p⟩
  | [y0, y1, y2, y3, y4], _ => exact ⟨1, fun p1 p2 p => lc5 w t y0 y1 y2 y3 y4 p1 p2 p⟩
  | [y0, y1, y2, y3, y4, y5], _ => exact ⟨1, fun p1 p2 p => lc6 w t y0 y1 y2 y3 y4 y5 p1 p2 p⟩
  | [y0, y1, y2, y3, y4, y5, y6], _ => exact ⟨1, fun p1 p2 p => lc7 w t y0 y1 y2 y3 y4 y5 y6 p1 p2 p⟩
  | [y0, y1, y2, y3, y4, y5, y6, y7], _ => exact ⟨1, fun p1 p2 p => lc8 w t y0 y1 y2 y3 y4 y5 y6 y7 p1 p2 p⟩
  | [y0, y1, y2, y3, y4, y5, y6, y7, y8], _ => exact ⟨1, fun p1 p2 p => lc9 w t y0 y1 y2 y3 y4 y5 y6 y7 y8 p1 p2 p⟩
  | [y0, y1, y2, y3, y4, y5, y6, y7, y8, y9], _ => exact ⟨1, fun p1 p2 p => lc10 w t y0 y1 y2 y3 y4 y5 y6 y7 y8 y9 p1 p2 p⟩
  | [y0, y1, y2, y3, y4, y5, y6, y7, y8, y9, y10], _ => exact ⟨1, fun p1 p2 p => lc11 w t y0 y1 y2 y3 y4 y5 y6 y7 y8 y9 y10 p1 p2 p⟩
  | [y0, y1, y2, y3, y4, y5, y6, y7, y8, y9, y10, y11], _ => exact ⟨1, fun p1 p2 p => lc12 w t y0 y1 y2 y3 y4 y5 y6 y7 y8 y9 y10 y11 p1 p2 p⟩
  | [y0, y1, y2, y3, y4, y5, y6, y7, y8, y9, y10, y11, y12], _ => exact ⟨1, fun p1 p2 p => lc13 w t y0 y1 y2 y3 y4 y5 y6 y7 y8 y9 y10 y11 y12 p1 p2 p⟩
  | [y0, y1, y2, y3, y4, y5, y6, y7, y8, y9, y10, y11, y12, y13], _ => exact ⟨1, fun p1 p2 p => lc14 w t y0 y1 y2 y3 y4 y5 y6 y7 y8 y9 y10 y11 y12 y13 p1 p2 p⟩
  | [y0, y1, y2, y3, y4, y5, y6, y7, y8, y9, y10, y11, y12, y13, y14], _ => exact ⟨1, fun p1 p2 p => lc15 w t y0 y1 y2 y3 y4 y5 y6 y7 y8 y9 y10 y11 y12 y13 y14 p1 p2 p⟩
  | [y0, y1, y2, y3, y4, y5, y6, y7, y8, y9, y10, y11, y12, y13, y14, y15], _ => exact ⟨1, fun p1 p2 p => lc16 w t y0 y1 y2 y3 y4 y5 y6 y7 y8 y9 y10 y11 y12 y13 y14 y15 p1 p2 p⟩
  | _ :: _ :: _ :: _ :: _ :: _ :: _ :: _ :: _ :: _ :: _ :: _ :: _ :: _ :: _ :: _ :: _ :: _, h => simp at h
theorem list_call (w : World) (t : Nat) (ys : Array Value) (h : ys.size ≤ 16) : ∃ cv, CallAt 1099 [lawCode] w (kt w.params) (.call (.type "list") ⟨[.ref 1098], []⟩) (t + 1837) (t + 1837) [(1098, ⟨(.type "list"), none, (.seq ys 0), #[]⟩)] [] (.ref 1099) [] [⟨(.type "list"), none, (.seq ys cv), #[]⟩] := by
  obtain ⟨cv, hc⟩ := lc w t ys.toList h
  refine ⟨cv, ?_⟩
  have C := callAt_of (sz := 1099) (st := [lawCode]) (w := w) (kt := kt w.params) (t := t) (iE := 0) (mE := 1) (n := 22) (c := .call (.type "list") ⟨[.ref 1098], []⟩) (v := .ref 1099) (pre := [(1098, ⟨(.type "list"), none, (.seq ys 0), #[]⟩)]) (pre0 := []) (up := []) (new := [⟨(.type "list"), none, (.seq ys cv), #[]⟩]) (exp := [(0, ⟨(.type "list"), none, (.seq ys 0), #[]⟩), (1, ⟨(.type "list"), none, (.seq ys cv), #[]⟩)])
    (base := [1098]) (objs := [⟨(.type "list"), none, (.seq ys 0), #[]⟩]) (objs' := [⟨(.type "list"), none, (.seq ys 0), #[]⟩]) (segs := []) (sps := []) (os := [4185477104708290879959104829644898204388353]) (fun bel p hb => ?_) (by kernel_rfl) (fa_cons (.inl (by kernel_rfl)) fa_nil) (by decide) (fun _ h => h) rfl rfl fa_nil (fun _ _ _ _ h _ => h) rfl (fun j o h => ?_) (fun j o h => ?_) trivial fa_nil
  · exact C
  · obtain ⟨p1, p2, rfl⟩ := bel2 hb
    exact hc p1 p2 p
  · match j, h with
    | 0, h => cases h; exact .head _
    | j + 1, h => simp at h
  · match j, h with
    | 0, h => cases h; exact .tail _ (.head _)
    | j + 1, h => simp at h
theorem here0 {w : World} {c : Code} {own past : Option Value} {bel : List (Code × Pos)} {p : Pos} {R : Result → Shared → Prop} {s : Shared}
    (h : ∀ A, codeAny (model PP w) A c R s) : wpCode (model PP w) ⟨c, none, own, bel, past⟩ R p s :=
  h { handled := none, depth := frameCount bel, frames := none, guards := none, units := unitsOf bel } _ _ rfl ⟨rfl, Nat.le_refl _, fun _ q => (nomatch q), fun _ q => (nomatch q), Nat.le_refl _⟩
theorem filterMap_le {α β : Type} (f : α → Option β) : ∀ l : List α, (l.filterMap f).length ≤ l.length := fun l => List.length_filterMap_le f l
theorem slice16 (its : Array Value) : (slicePick its none (some 16) none).size ≤ 16 := by
  by_cases h : 16 ≤ its.size
  · have := slicePick_upto its 16 h
    have e : ((16 : Nat) : Int) = 16 := rfl
    rw [e] at this
    rw [this]
    simp only [List.size_toArray, List.length_take]
    omega
  · have hs := slicePick_size_le its none (some 16) none
    omega
theorem slice_mem (its : Array Value) : ∀ v ∈ slicePick its none (some 16) none, v ∈ its := by
  intro v hv
  unfold slicePick at hv
  have hv' := Array.mem_toList_iff.mpr hv
  simp only [List.mem_filterMap] at hv'
  obtain ⟨i, _, hi⟩ := hv'
  exact Array.mem_of_getElem? hi
theorem slice_call (w : World) (t t0 : Nat) (its : Array Value) : CallAt 1098 [lawCode] w (kt w.params) (.call (.builtin "list.__getitem__") ⟨[.ref 1094, .ref 1097], []⟩) (t + 1837) (t + 1837)
    [(1094, ⟨(.type "list"), none, (.seq its 0), #[]⟩), (1097, ⟨(.type "slice"), none, (.fields #[.none, (iv 16 t0), .none]), #[]⟩)] [] (.ref 1098) [] [⟨(.type "list"), none, (.seq (slicePick its none (some 16) none) 0), #[]⟩] := by
  intro own past bel s R p hbl hN hg hk hst hp1 hp2 hR
  have h1 := hp1 _ (.head _)
  have h2 := hp1 _ (.tail _ (.head _))
  have hs : (slicePick its none (some 16) none).size ≤ 16 := slice16 its
  refine here0 (fun A => code_slice (lo := none) (hi := some 16) (st := none) ⟨_, h1, rfl, 0, rfl⟩ ⟨_, h2, rfl, rfl⟩ .none (.int 16 t0) .none (by simp) ?_ (Nat.le_trans hs (by decide)))
  rw [hN]
  refine hR _ ⟨by show (s.heap.push _).objs.size = _; rw [Heap.size_push]; rfl, hst, fun _ h => (nomatch h), fun k x h => ?_, fun b o _ e => Heap.get?_push_of_some _ e, rfl, rfl, rfl⟩
  match k, h with
  | 0, h => cases h; exact Heap.get?_push_size _ rfl
  | k + 1, h => simp at h
end
end Mine
end
section
set_option maxRecDepth 100000
open PySem PySem.W PySem.Calls PyProof.Rows
open PySem.Sem (wp)
namespace Mine
noncomputable section
noncomputable def proRun (w : World) (t : Nat) : St :=
  runB (VL w (kt w.params) [] 1095 t [] [] []) 12 [(0, loc1 w.params (t + 0 + 1837) (.ref 1094)), (1, ⟨(.type "cell"), none, (.cell none), #[]⟩)] lawCode 2 1 cc default [] (callStub lawN [.ref 1094]).cur .nil 0 0 0 [1182899716627025101825] .nil
end
theorem c_pro (w : World) (t : Nat) : (proRun w t).ob.left = (proRun w t).ob.right := by kernel_rfl
theorem holds_get {h : Heap} : ∀ {t : PySem.W.X.KT} {s b : Nat} {i : Nat} {o : Obj}, PySem.W.X.KT.Holds h s b t → t.get i = some o → h.get? (s * i + b) = some o := fun H e => H.get e
theorem akt_of {h : Heap} {K : Frag} {kt : PySem.W.X.KT} (e : kt = PySem.W.X.KT.of K) (A : PySem.W.X.AllIn h K) (hz : h.objs.size ≤ 1333) : AKT h kt := fun a o q => by
  subst e
  have := holds_get (X.holds_of A) q
  rw [Nat.one_mul, Nat.add_zero] at this
  exact ⟨Nat.lt_of_lt_of_le (Heap.lt_size this) hz, this⟩
theorem allIn_filter {h : Heap} (f : Addr × Obj → Bool) : ∀ {K : Frag}, PySem.W.X.AllIn h K → PySem.W.X.AllIn h (K.filter f)
  | [], _ => trivial
  | p :: K, A => by
    rw [List.filter_cons]
    split
    · exact ⟨A.1, allIn_filter f A.2⟩
    · exact allIn_filter f A.2
theorem allIn_append {h : Heap} : ∀ {K L : Frag}, PySem.W.X.AllIn h K → PySem.W.X.AllIn h L → PySem.W.X.AllIn h (K ++ L)
  | [], _, _, B => B
  | _ :: _, _, A, B => ⟨A.1, allIn_append A.2 B⟩
theorem allIn_all {h : Heap} : ∀ {K : Frag}, (∀ x ∈ K, h.get? x.1 = some x.2) → PySem.W.X.AllIn h K
  | [], _ => trivial
  | p :: K, A => ⟨A p (.head _), allIn_all fun x hx => A x (.tail _ hx)⟩
theorem kt2_eq (P : Params) (uu : Nat) : kt2 P uu = X.KT.of (((KK P).filter fun x => !(Nat.beq x.1 1085)) ++ KI P uu) := by kernel_rfl
theorem body_eq : lawBody = lawSl 0 20 := by kernel_rfl
theorem law_pro {w : World} {s : Shared} {its : Array Value} {Q : Shared → Prop} (hz : s.heap.objs.size = 1095) (K : X.AllIn s.heap (KK w.params)) (h94 : s.heap.get? 1094 = some ⟨.type "list", none, .seq its 0, #[]⟩) (t : Nat) (ht : s.toks = t + 1837) (hg : s.gens = #[])
    (k : ∀ s' p', s'.heap.objs.size = 1097 → s'.toks = t + 1 + 1837 → s'.gens = #[] → s'.drawn = s.drawn → s'.os = s.os → (∀ b o, s.heap.get? b = some o → s'.heap.get? b = some o) → s'.heap.get? 1095 = some (loc1 w.params (t + 1837) (.ref 1094)) → s'.heap.get? 1096 = some ⟨(.type "cell"), none, (.cell none), #[]⟩ →
      wp (model PP w) Γf (execs (lawSl 0 20) lawEnv) (fun g _ s'' => g = .ret (.bool true) ∧ Q s'') (fun _ _ _ => False) p' s') :
    wp (model PP w) Γc (callStub lawN [.ref 1094]).cur (Sem.finPost (model PP w) Γc (fun r s' => r = .ok (.ret (.bool true)) ∧ Q s')) (fun _ _ _ => False) default s := by
  have hk0 : AKT s.heap (kt w.params) := akt_of (kt_eq w.params) (allIn_filter _ K) (by omega)
  let RX : Result → Shared → Prop := fun r s' => r = okT ∧ Q s'
  let X : Env0 := ⟨VL w (kt w.params) [] 1095 t [] [] [], s.heap, s.drawn, s.os, none, none, RX⟩
  obtain ⟨O, D⟩ := start (w := w) (kt := kt w.params) (base := []) (objs := []) (segs := []) (sps := []) (own := none) (past := none) (bel := []) (RX := RX) rfl List.nodup_nil hz ht hg
    (fun a o e => ⟨(hk0 a o e).2, fun h => (nomatch h)⟩) rfl trivial fa_nil
  have g := runB_sound (X := X) O (c_pro w t) rfl (fun s' T' p' D' he => by
    have h5 := (D'.slot _ _ (he _ (.head _))).2
    have h6 := (D'.slot _ _ (he _ (.tail _ (.head _)))).2
    refine wp_func ?_
    rw [body_eq]
    refine Sem.wp_mono _ _ _ (fun g p'' s'' h => ⟨.bool true, h.1, rfl, rfl, h.2⟩) (fun _ _ _ h => h) _ _ (k s' p' D'.size D'.toks D'.gens D'.drawn D'.os (fun b o e => D'.keep b o e fun j hj => absurd hj (Nat.not_lt_zero _)) h5 h6)) s D
  have g' : wp (model PP w) Γc (callStub lawN [.ref 1094]).cur (Sem.finPost (model PP w) Γc RX) (fun e _ s' => RX (.error e) s') default s := g
  exact Sem.wp_mono _ _ _ (fun _ _ _ h => h) (fun e _ s' h => by have h1 : (Except.error e : Result) = okT := h.1; cases h1) _ _ g'
end Mine
end
section
set_option maxRecDepth 100000
set_option linter.unusedVariables false
open PySem PySem.W PySem.Calls PyProof.Rows
open PySem.Sem (wp)
namespace Mine
noncomputable def tabMore : Array Value := #[(iv 759 0), (iv 0 0), (.ref 1151), (iv 760 0), (iv 0 0), (.ref 1158), (iv 762 0), (iv 0 0), (.ref 1169), (iv 763 0), (iv 0 0), (.ref 1176), (iv 771 0), (iv 0 0), (.ref 1316), (iv 772 0), (iv 0 0), (.ref 1323)]
noncomputable def tabAfter : Obj := ⟨.none, none, (.fields tabMore), #[]⟩
structure Cm (w : World) (uu : Nat) (x99 : Obj) (s₀ s : Shared) (N t : Nat) : Prop where
  size : s.heap.objs.size = N
  toks : s.toks = t + 1837
  gens : s.gens = #[]
  os : s.os = s₀.os
  kt : AKT s.heap (kt2 w.params uu)
  old : ∀ b o, b ≠ 1085 → s₀.heap.get? b = some o → s.heap.get? b = some o
  tab : Hs s 1085 tabAfter
  x99 : Hs s 1099 x99
  zero : s₀.heap.objs.size = 1095
theorem Cm.next {w : World} {uu N t mE t' : Nat} {x : Obj} {s₀ s s' : Shared} {base : List Nat} (C : Cm w uu x s₀ s N t) (A : After s s' base N mE (t' + 1837)) (hb : ∀ a ∈ base, a ∈ FB ∨ 1333 ≤ a) : Cm w uu x s₀ s' (N + mE) t' := by
  have h95 : ∀ a, a < 1095 → a ∉ base := fun a ha hm => by
    rcases hb a hm with h | h
    · unfold FB at h; simp only [List.mem_cons, List.not_mem_nil, or_false] at h; omega
    · omega
  refine ⟨A.size, A.toks, A.gens, A.os.trans C.os, fun a o e => ⟨(C.kt a o e).1, A.kept a o (fun hm => ?_) (C.kt a o e).2⟩, fun b o hb' e => A.kept b o (h95 b (by have h3 : b < s₀.heap.objs.size := Heap.lt_size e; rw [C.zero] at h3; exact h3)) (C.old b o hb' e), A.kept _ _ (h95 _ (by decide)) C.tab, A.kept _ _ (fun hm => ?_) C.x99, C.zero⟩
  · rcases hb a hm with h | h
    · rw [fb_kt _ _ a h] at e; cases e
    · have := (C.kt a o e).1; omega
  · rcases hb 1099 hm with h | h
    · exact absurd h (by decide)
    · exact absurd h (by decide)
inductive Ans | n | h | a | b
noncomputable abbrev lstO (vs : List Value) (k : Nat) : Obj := ⟨(.type "list"), none, (.seq ⟨vs⟩ k), #[]⟩
noncomputable abbrev homeT (x y : Nat) : Obj := ⟨(.type "tuple"), none, (.seq #[(sv "home" (x + 1837)), (.bytes #[0, 0, 0, 0, 0, 0, 0, 0] (y + 1837))] 0), #[]⟩
noncomputable abbrev awayT (x y : Nat) : Obj := ⟨(.type "tuple"), none, (.seq #[(sv "away" (x + 1837)), (.bytes #[1, 1, 1, 1, 1, 1, 1, 1] (y + 1837))] 0), #[]⟩
noncomputable def fAway (w : World) (s : Shared) : Option Bool → Prop
  | none => Hs s 1294 ⟨(.type "list"), none, (.seq #[(.ref 1291)] 0), #[]⟩
  | some c => Hs s 1294 ⟨(.type "list"), none, (.seq #[(.ref 1291), (.ref 1350)] 1), #[]⟩ ∧ (∃ ua a b, Hs s 1349 (sh1349 w.params ua (iv (cond c 10 100) (a + 1837)) (iv 0 (b + 1837)))) ∧ Hs s 1350 ⟨(.ref 700), (some 1349), .plain, #[]⟩
noncomputable def fAns (w : World) (uu : Nat) (s : Shared) : Option Ans → Prop
  | none => ∃ v, Hs s 1287 (sh1287 w.params uu v)
  | some .n => Hs s 1287 (sh1287 w.params uu (.ref 1362)) ∧ Hs s 1356 ⟨(.type "list"), none, (.seq #[] 0), #[]⟩ ∧ Hs s 1362 ⟨(.type "list"), none, (.seq #[] 0), #[]⟩
  | some .h => Hs s 1287 (sh1287 w.params uu (.ref 1370)) ∧ Hs s 1356 ⟨(.type "list"), none, (.seq #[(.ref 1366)] 1), #[]⟩ ∧ (∃ x y, Hs s 1366 (homeT x y)) ∧ Hs s 1370 ⟨(.type "list"), none, (.seq #[(.ref 1366)] 1), #[]⟩
  | some .a => Hs s 1287 (sh1287 w.params uu (.ref 1370)) ∧ Hs s 1356 ⟨(.type "list"), none, (.seq #[(.ref 1367)] 1), #[]⟩ ∧ (∃ x y, Hs s 1367 (awayT x y)) ∧ Hs s 1370 ⟨(.type "list"), none, (.seq #[(.ref 1367)] 1), #[]⟩
  | some .b => Hs s 1287 (sh1287 w.params uu (.ref 1378)) ∧ Hs s 1356 ⟨(.type "list"), none, (.seq #[(.ref 1366), (.ref 1375)] 2), #[]⟩ ∧ (∃ x y, Hs s 1366 (homeT x y)) ∧ (∃ x y, Hs s 1375 (awayT x y)) ∧ Hs s 1378 ⟨(.type "list"), none, (.seq #[(.ref 1366), (.ref 1375)] 1), #[]⟩
noncomputable def fPl (w : World) (uu : Nat) (s : Shared) : Bool → Prop
  | false => ∃ a b, Hs s 1202 (sh1202 w.params uu (iv 0 (a + 1837)) .none (.ref 1207) .none .none .none (iv 0 (b + 1837)) (.bool false) (.bool false))
  | true => ∃ a r ls lt fu un wn hn, Hs s 1202 (sh1202 w.params uu (iv 0 (a + 1837)) .none r ls lt (iv 1000 (fu + 1837)) un wn hn)
noncomputable def fDue (w : World) (uu : Nat) (s : Shared) : Bool → Prop
  | false => ∃ v, Hs s 1221 (sh1221 w.params uu (.bytes #[] (v + 1837)) (.ref 1224))
  | true => ∃ (v : Value) (aD : Nat) (x : Value), Hs s 1221 (sh1221 w.params uu v (.ref (aD + 1090))) ∧ Hs s (aD + 1090) ⟨(.type "list"), none, (.seq #[x] 0), #[]⟩ ∧ 1379 ≤ aD + 1090
noncomputable def fOwed (s : Shared) : Bool → Prop
  | false => Hs s 1305 ⟨(.type "list"), none, (.seq #[] 0), #[]⟩
  | true => ∃ v, Hs s 1305 ⟨(.type "list"), none, (.seq #[v] 1), #[]⟩
noncomputable def fProb (w : World) (uu : Nat) (s : Shared) (prob : Bool) : Prop := ∃ a b, Hs s 1260 (sh1260 w.params uu (iv (cond prob 2 0) (a + 1837)) (iv 0 (b + 1837)))
structure Inv (w : World) (uu : Nat) (x99 : Obj) (s₀ s : Shared) (N t k : Nat) (came : Option Bool) (ans : Option Ans) (owed ack data gone prob : Bool) : Prop where
  cm : Cm w uu x99 s₀ s N t
  bx : ∃ tb, Hs s 1100 (box k tb)
  cn : Hs s 1106 (sh1106 w.params uu (.ref 1306))
  s05 : Hs s 1205 ⟨(.type "dict"), none, (.dict #[] 0), #[]⟩
  k73 : ∃ u, Hs s 1273 (sh1273 w.params uu (iv 0 (u + 1837)))
  g86 : Hs s 1186 (sh1186 w.params uu (.bool gone))
  p02 : fPl w uu s ack
  c21 : fDue w uu s data
  r60 : fProb w uu s prob
  o05 : fOwed s owed
  away : fAway w s came
  answ : fAns w uu s ans
section
variable {w : World} {uu N t t' mE : Nat} {s s' : Shared} {base : List Nat} (A : After s s' base N mE (t' + 1837))
include A
theorem After.ex {α : Type} {P : α → Obj} {a : Nat} (h : ∃ x, Hs s a (P x)) (hb : a ∉ base) : ∃ x, Hs s' a (P x) := h.imp fun _ h => A.kept _ _ hb h
theorem After.ex2 {α β : Type} {P : α → β → Obj} {a : Nat} (h : ∃ x y, Hs s a (P x y)) (hb : a ∉ base) : ∃ x y, Hs s' a (P x y) := h.imp fun _ h => h.imp fun _ h => A.kept _ _ hb h
theorem After.away {c : Option Bool} (h : fAway w s c) (hb : 1294 ∉ base ∧ 1349 ∉ base ∧ 1350 ∉ base) : fAway w s' c := by
  cases c with
  | none => exact A.kept _ _ hb.1 h
  | some c => exact ⟨A.kept _ _ hb.1 h.1, h.2.1.imp fun _ h => A.ex2 h hb.2.1, A.kept _ _ hb.2.2 h.2.2⟩
theorem After.answ {c : Option Ans} (h : fAns w uu s c) (hb : 1287 ∉ base ∧ 1356 ∉ base ∧ 1362 ∉ base ∧ 1366 ∉ base ∧ 1367 ∉ base ∧ 1370 ∉ base ∧ 1375 ∉ base ∧ 1378 ∉ base) : fAns w uu s' c := by
  obtain ⟨b1, b2, b3, b4, b5, b6, b7, b8⟩ := hb
  cases c with
  | none => exact A.ex h b1
  | some c => cases c with
    | n => exact ⟨A.kept _ _ b1 h.1, A.kept _ _ b2 h.2.1, A.kept _ _ b3 h.2.2⟩
    | h => exact ⟨A.kept _ _ b1 h.1, A.kept _ _ b2 h.2.1, A.ex2 h.2.2.1 b4, A.kept _ _ b6 h.2.2.2⟩
    | a => exact ⟨A.kept _ _ b1 h.1, A.kept _ _ b2 h.2.1, A.ex2 h.2.2.1 b5, A.kept _ _ b6 h.2.2.2⟩
    | b => exact ⟨A.kept _ _ b1 h.1, A.kept _ _ b2 h.2.1, A.ex2 h.2.2.1 b4, A.ex2 h.2.2.2.1 b7, A.kept _ _ b8 h.2.2.2.2⟩
theorem After.pl {c : Bool} (h : fPl w uu s c) (hb : 1202 ∉ base) : fPl w uu s' c := by
  cases c with
  | false => exact A.ex2 h hb
  | true =>
    obtain ⟨a, r, ls, lt, fu, un, wn, hn, h⟩ := h
    exact ⟨a, r, ls, lt, fu, un, wn, hn, A.kept _ _ hb h⟩
theorem After.due {c : Bool} (h : fDue w uu s c) (hb : 1221 ∉ base) (hl : ∀ b ∈ base, b < 1379) : fDue w uu s' c := by
  cases c with
  | false => exact A.ex h hb
  | true =>
    obtain ⟨v, aD, x, h1, h2, h3⟩ := h
    exact ⟨v, aD, x, A.kept _ _ hb h1, A.kept _ _ (fun hm => by have := hl _ hm; omega) h2, h3⟩
theorem After.owed {c : Bool} (h : fOwed s c) (hb : 1305 ∉ base) : fOwed s' c := by
  cases c with
  | false => exact A.kept _ _ hb h
  | true => exact A.ex h hb
theorem After.prob {c : Bool} (h : fProb w uu s c) (hb : 1260 ∉ base) : fProb w uu s' c := A.ex2 h hb
end
noncomputable def L2 (w : World) (s : Shared) : Prop := ∃ k0 v0 k1, Hs s 1095 (loc2 w.params (k0 + 1837) v0 (k1 + 1837) (.ref 1107))
noncomputable def L4 (w : World) (s : Shared) (c : Bool) : Prop := ∃ k0 v0 k1 k2 a k3, Hs s 1095 (loc4 w.params (k0 + 1837) v0 (k1 + 1837) (.ref 1107) (k2 + 1837) (iv (cond c 10 100) (a + 1837)) (k3 + 1837) (.ref 1203))
noncomputable def L5 (w : World) (s : Shared) (c : Bool) : Prop := ∃ k0 v0 k1 k2 a k3 k4, Hs s 1095 (loc5 w.params (k0 + 1837) v0 (k1 + 1837) (.ref 1107) (k2 + 1837) (iv (cond c 10 100) (a + 1837)) (k3 + 1837) (.ref 1203) (k4 + 1837) (.ref 1356))
noncomputable def L8 (w : World) (s : Shared) (c data ack : Bool) : Prop := ∃ k0 v0 k1 k2 a k3 k4 k5 k6 d k7, Hs s 1095 (loc8 w.params (k0 + 1837) v0 (k1 + 1837) (.ref 1107) (k2 + 1837) (iv (cond c 10 100) (a + 1837)) (k3 + 1837) (.ref 1203) (k4 + 1837) (.ref 1356) (k5 + 1837) (.ref 1187) (k6 + 1837) (iv (cond data 1 0) (d + 1837)) (k7 + 1837) (.bool ack))
noncomputable def L9 (w : World) (s : Shared) (c : Bool) (waits : Bool) : Prop := ∃ k0 v0 k1 k2 a k3 k4 k5 v5 k6 v6 k7 v7 k8, Hs s 1095 (loc9 w.params (k0 + 1837) v0 (k1 + 1837) (.ref 1107) (k2 + 1837) (iv (cond c 10 100) (a + 1837)) (k3 + 1837) (.ref 1203) (k4 + 1837) (.ref 1356) (k5 + 1837) v5 (k6 + 1837) v6 (k7 + 1837) v7 (k8 + 1837) (.bool waits))
noncomputable def L12 (w : World) (s : Shared) (waits : Bool) (st : Nat) : Prop := ∃ k0 v0 k1 k2 v2 k3 v3 k4 v4 k5 v5 k6 v6 k7 v7 k8 k9 v9 k10 v10 k11, Hs s 1095 (loc12 w.params (k0 + 1837) v0 (k1 + 1837) (.ref 1107) (k2 + 1837) v2 (k3 + 1837) v3 (k4 + 1837) v4 (k5 + 1837) v5 (k6 + 1837) v6 (k7 + 1837) v7 (k8 + 1837) (.bool waits) (k9 + 1837) v9 (k10 + 1837) v10 (k11 + 1837) (.ref (st + 1090)))
noncomputable def kiA : List Nat := [1096, 1107, 1113, 1114, 1120, 1121, 1127, 1128, 1134, 1135, 1151, 1152, 1158, 1159, 1169, 1170, 1176, 1177, 1187, 1189, 1194, 1195, 1197, 1203, 1207, 1212, 1222, 1224, 1227, 1228, 1230, 1233, 1234, 1236, 1241, 1251, 1270, 1271, 1274, 1288, 1290, 1291, 1300, 1306, 1316, 1317, 1323, 1324]
theorem ki_eq (w : World) (t u : Nat) (its : Array Value) (n1 : Obj) : KI w.params t = (big0 w t u its n1).filter (fun x => kiA.contains x.1) := by kernel_rfl
theorem allIn_kept {h h' : Heap} {base : List Nat} (k : ∀ b o, b ∉ base → h.get? b = some o → h'.get? b = some o) : ∀ {K : Frag}, (∀ x ∈ K, x.1 ∉ base) → X.AllIn h K → X.AllIn h' K
  | [], _, _ => trivial
  | p :: K, hb, A => ⟨k _ _ (hb p (.head _)) A.1, allIn_kept k (fun x hx => hb x (.tail _ hx)) A.2⟩
theorem kk_base (P : Params) : ∀ x ∈ (KK P).filter (fun x => !(Nat.beq x.1 1085)), x.1 ∉ [1094, 1095, 1096, 1085] := by
  have e : ((KK P).filter (fun x => !(Nat.beq x.1 1085))).map (fun x => x.1) = KAs.filter (fun x => !(Nat.beq x 1085)) := by kernel_rfl
  have h : ∀ a ∈ KAs.filter (fun x => !(Nat.beq x 1085)), a ∉ [1094, 1095, 1096, 1085] := by decide +kernel
  intro x hx
  exact h _ (by rw [← e]; exact List.mem_map.mpr ⟨x, hx, rfl⟩)
theorem law_p0 {w : World} {s₀ s : Shared} {its : Array Value} {t : Nat} {p : Pos} {Q : Flow → Pos → Shared → Prop} (hz : s₀.heap.objs.size = 1095) (K : X.AllIn s₀.heap (KK w.params)) (h94 : s₀.heap.get? 1094 = some ⟨.type "list", none, .seq its 0, #[]⟩)
    (h1 : s.heap.objs.size = 1097) (h2 : s.toks = t + 1 + 1837) (h3 : s.gens = #[]) (h4 : s.os = s₀.os) (hk : ∀ b o, s₀.heap.get? b = some o → s.heap.get? b = some o) (h95 : Hs s 1095 (loc1 w.params (t + 1837) (.ref 1094))) (h96 : Hs s 1096 ⟨(.type "cell"), none, (.cell none), #[]⟩)
    (k : ∀ s' p' xs cv uu t', (∀ v ∈ xs, v ∈ its) → xs.size ≤ 16 → Inv w uu (lst xs cv) s₀ s' 1333 t' 0 none none false false false false false → L2 w s' → wp (model PP w) Γf (execs (lawSl 1 19) lawEnv) Q (fun _ _ _ => False) p' s') :
    wp (model PP w) Γf (execs (lawSl 0 20) lawEnv) Q (fun _ _ _ => False) p s := by
  have K' := allIn_keeps hk K
  have hkt : AKT s.heap (kt w.params) := akt_of (kt_eq w.params) (allIn_filter _ K') (by omega)
  obtain ⟨cv, lc⟩ := list_call w (t + 1 + 1) (slicePick its none (some 16) none) (slice16 its)
  have h85 : s.heap.get? 1085 = some (o_1085 w.params) := hk _ _ (allIn_get K (a := 1085) (o := o_1085 w.params) (by kernel_rfl))
  refine seq (n := 1) (m := 19) (p0 (t := t + 1) (u0_0 := t) (its := its) (q0 := []) (q1 := []) h1 h2 h3 hkt (hk _ _ h94) h95 h96 h85 (slice_call w (t + 1 + 1) _ its) fa_nil lc fa_nil) rfl fun s' p' h => ?_
  obtain ⟨A, hp⟩ := h
  have hki : X.AllIn s'.heap (KI w.params (t + 1)) := allIn_all fun x hx => hp x (by
    have e : KI w.params (t + 1) = (big0 w (t + 1) t its (lst (slicePick its none (some 16) none) cv)).filter (fun x => kiA.contains x.1) := ki_eq ..
    rw [e] at hx
    exact (List.mem_filter.mp hx).1)
  have hkk : X.AllIn s'.heap ((KK w.params).filter fun x => !(Nat.beq x.1 1085)) := by
    have h0 : X.AllIn s.heap ((KK w.params).filter fun x => !(Nat.beq x.1 1085)) := allIn_filter _ K'
    exact allIn_kept (fun b o hb e => A.kept b o hb e) (kk_base w.params) h0
  refine k s' p' (slicePick its none (some 16) none) cv (t + 1) (t + 1 + 594) (slice_mem its) (slice16 its) ⟨⟨A.size, A.toks, A.gens, A.os.trans h4, akt_of (kt2_eq w.params (t + 1)) (allIn_append hkk hki) (by rw [A.size]; decide), fun b o hb e => ?_, (hp _ (List.mem_of_getElem? (i := 3) rfl)), (hp _ (List.mem_of_getElem? (i := 4) rfl)), hz⟩,
    ⟨_, (hp _ (List.mem_of_getElem? (i := 5) rfl))⟩, (hp _ (List.mem_of_getElem? (i := 6) rfl)), (hp _ (List.mem_of_getElem? (i := 32) rfl)), ⟨_, (hp _ (List.mem_of_getElem? (i := 49) rfl))⟩, (hp _ (List.mem_of_getElem? (i := 24) rfl)), ⟨_, _, (hp _ (List.mem_of_getElem? (i := 30) rfl))⟩, ⟨_, (hp _ (List.mem_of_getElem? (i := 35) rfl))⟩, ⟨_, _, (hp _ (List.mem_of_getElem? (i := 46) rfl))⟩, (hp _ (List.mem_of_getElem? (i := 57) rfl)), (hp _ (List.mem_of_getElem? (i := 55) rfl)), ⟨_, (hp _ (List.mem_of_getElem? (i := 51) rfl))⟩⟩ ⟨_, _, _, (hp _ (List.mem_of_getElem? (i := 1) rfl))⟩
  by_cases q : b = 1094
  · subst q
    rw [h94] at e
    cases e
    exact hp _ (List.mem_of_getElem? (i := 0) rfl)
  · refine A.kept b o (fun hm => ?_) (hk b o e)
    have h5 : b < s₀.heap.objs.size := Heap.lt_size e
    rw [hz] at h5
    simp only [List.mem_cons, List.not_mem_nil, or_false] at hm
    rcases hm with h | h | h | h
    · exact q h
    · rw [h] at h5; exact absurd h5 (by decide)
    · rw [h] at h5; exact absurd h5 (by decide)
    · exact hb h
end Mine
end
section
set_option maxRecDepth 100000
set_option linter.unusedVariables false
open PySem PySem.W PySem.Calls PyProof.Rows
open PySem.Sem (wp)
namespace Mine
section
variable {w : World} {uu N t cv : Nat} {xs : Array Value} {s₀ s : Shared} {p : Pos} {Q : Flow → Pos → Shared → Prop}
structure Draws (w : World) (uu : Nat) (xs : Array Value) (cv : Nat) : Prop where
  d0 : DrawOK [lawCode] w uu 0 2 xs cv
  d1 : ∀ it ac la, DrawOK [compC it ac la, lawCode] w uu 1 2 xs cv
  d2 : ∀ it ac la, DrawOK [compC it ac la, lawCode] w uu 2 2 xs cv
  d3 : DrawOK [lawCode] w uu 3 3 xs cv
  d4 : DrawOK [lawCode] w uu 4 3 xs cv
  d5 : DrawOK [lawCode] w uu 5 2 xs cv
  d6 : DrawOK [lawCode] w uu 6 2 xs cv
  d7 : DrawOK [lawCode] w uu 7 3 xs cv
theorem one99 {w : World} {uu N t : Nat} {x99 : Obj} {s₀ s : Shared} {base : List Nat} (C : Cm w uu x99 s₀ s N t) (hb : 1099 ∉ base) : ∀ x ∈ [(1099, x99)], s.heap.get? x.1 = some x.2 ∧ x.1 ∉ base :=
  fa_cons ⟨C.x99, hb⟩ fa_nil
noncomputable abbrev K0 (w : World) (i n : Nat) (Q : Flow → Pos → Shared → Prop) (p : Pos) (s : Shared) : Prop := wp (model PP w) Γf (execs (lawSl i n) lawEnv) Q (fun _ _ _ => False) p s
theorem st1 (D : Draws w uu xs cv) (I : Inv w uu (lst xs cv) s₀ s 1333 t 0 none none false false false false false) (L : L2 w s)
    (k : ∀ s' p' t' c, Inv w uu (lst xs cv) s₀ s' 1354 t' 1 (some c) none false false false false false → L4 w s' c → K0 w 3 17 Q p' s') : K0 w 1 19 Q p s := by
  obtain ⟨tb, hb⟩ := I.bx
  obtain ⟨k0, v0, k1, hl⟩ := L
  obtain ⟨v87, h87⟩ := I.answ
  obtain ⟨r, hr, t1, ur, ub, fr, hle, C⟩ := D.d0 (t + 6) (t + 5) tb
  have hs : segOK t [(6, t1)] := ⟨hle, trivial⟩
  match r, hr, C with
  | 0, _, C =>
    refine seq (n := 2) (m := 17) (p1h I.cm.size I.cm.toks I.cm.gens I.cm.kt hl hb I.cn h87 I.away hs C rfl (one99 I.cm (by decide))) rfl fun s' p' h => ?_
    obtain ⟨A, h95, h100, h106, h287, h294, h349, h350⟩ := h
    have cm := I.cm.next (t' := t1 + 53) A (by decide)
    exact k s' p' (t1 + 53) false ⟨cm, ⟨_, h100⟩, h106, A.kept _ _ (by decide) I.s05, A.ex I.k73 (by decide), A.kept _ _ (by decide) I.g86, A.pl I.p02 (by decide), A.due I.c21 (by decide) (by decide), A.prob I.r60 (by decide), A.owed I.o05 (by decide), ⟨h294, ⟨_, _, _, h349⟩, h350⟩, ⟨_, h287⟩⟩ ⟨_, _, _, _, _, _, h95⟩
  | 1, _, C =>
    refine seq (n := 2) (m := 17) (p1t I.cm.size I.cm.toks I.cm.gens I.cm.kt hl hb I.cn h87 I.away hs C rfl (one99 I.cm (by decide))) rfl fun s' p' h => ?_
    obtain ⟨A, h95, h100, h106, h287, h294, h349, h350⟩ := h
    have cm := I.cm.next (t' := t1 + 53) A (by decide)
    exact k s' p' (t1 + 53) true ⟨cm, ⟨_, h100⟩, h106, A.kept _ _ (by decide) I.s05, A.ex I.k73 (by decide), A.kept _ _ (by decide) I.g86, A.pl I.p02 (by decide), A.due I.c21 (by decide) (by decide), A.prob I.r60 (by decide), A.owed I.o05 (by decide), ⟨h294, ⟨_, _, _, h349⟩, h350⟩, ⟨_, h287⟩⟩ ⟨_, _, _, _, _, _, h95⟩
theorem st3 {c : Bool} (D : Draws w uu xs cv) (I : Inv w uu (lst xs cv) s₀ s 1354 t 1 (some c) none false false false false false) (L : L4 w s c)
    (k : ∀ s' p' N' t' a, 1363 ≤ N' → Inv w uu (lst xs cv) s₀ s' N' t' 3 (some c) (some a) false false false false false → L5 w s' c → K0 w 5 15 Q p' s') : K0 w 3 17 Q p s := by
  obtain ⟨tb, hb⟩ := I.bx
  obtain ⟨k0, v0, k1, k2, a0, k3, hl⟩ := L
  obtain ⟨v87, h87⟩ := I.answ
  obtain ⟨r0, hr0, t1, ur0, ub0, fr0, hle0, C0⟩ := D.d1 (.ref (1354 + 1)) (.ref (1354 + 2)) (1354 + 3) (t + 6) (t + 5) tb
  match r0, hr0, C0 with
  | 0, _, C0 =>
    obtain ⟨r1, hr1, t2, ur1, ub1, fr1, hle1, C1⟩ := D.d2 (.ref (1354 + 1)) (.ref (1354 + 2)) (1354 + 3) (t1 + 7) (t1 + 6) ub0
    have hs : segOK t [(6, t1), (7, t2)] := ⟨hle0, hle1, trivial⟩
    match r1, hr1, C1 with
    | 0, _, C1 =>
      refine seq (n := 2) (m := 15) (p3h I.cm.size I.cm.toks I.cm.gens I.cm.kt hl hb I.cn h87 hs C0 rfl (one99 I.cm (by decide)) C1 rfl (one99 I.cm (by decide))) rfl fun s' p' h => ?_
      obtain ⟨A, h95, h100, h106, h287, h356, h366, h370⟩ := h
      have cm := I.cm.next (t' := t2 + 4) A (by decide)
      exact k s' p' _ (t2 + 4) .h (by decide) ⟨cm, ⟨_, h100⟩, h106, A.kept _ _ (by decide) I.s05, A.ex I.k73 (by decide), A.kept _ _ (by decide) I.g86, A.pl I.p02 (by decide), A.due I.c21 (by decide) (by decide), A.prob I.r60 (by decide), A.owed I.o05 (by decide), A.away I.away (by decide), ⟨h287, h356, ⟨_, _, h366⟩, h370⟩⟩ ⟨_, _, _, _, _, _, _, h95⟩
    | 1, _, C1 =>
      refine seq (n := 2) (m := 15) (p3b I.cm.size I.cm.toks I.cm.gens I.cm.kt hl hb I.cn h87 hs C0 rfl (one99 I.cm (by decide)) C1 rfl (one99 I.cm (by decide))) rfl fun s' p' h => ?_
      obtain ⟨A, h95, h100, h106, h287, h356, h366, h375, h378⟩ := h
      have cm := I.cm.next (t' := t2 + 8) A (by decide)
      exact k s' p' _ (t2 + 8) .b (by decide) ⟨cm, ⟨_, h100⟩, h106, A.kept _ _ (by decide) I.s05, A.ex I.k73 (by decide), A.kept _ _ (by decide) I.g86, A.pl I.p02 (by decide), A.due I.c21 (by decide) (by decide), A.prob I.r60 (by decide), A.owed I.o05 (by decide), A.away I.away (by decide), ⟨h287, h356, ⟨_, _, h366⟩, ⟨_, _, h375⟩, h378⟩⟩ ⟨_, _, _, _, _, _, _, h95⟩
  | 1, _, C0 =>
    obtain ⟨r1, hr1, t2, ur1, ub1, fr1, hle1, C1⟩ := D.d2 (.ref (1354 + 1)) (.ref (1354 + 2)) (1354 + 3) (t1 + 3) (t1 + 2) ub0
    have hs : segOK t [(6, t1), (3, t2)] := ⟨hle0, hle1, trivial⟩
    match r1, hr1, C1 with
    | 0, _, C1 =>
      refine seq (n := 2) (m := 15) (p3n I.cm.size I.cm.toks I.cm.gens I.cm.kt hl hb I.cn h87 hs C0 rfl (one99 I.cm (by decide)) C1 rfl (one99 I.cm (by decide))) rfl fun s' p' h => ?_
      obtain ⟨A, h95, h100, h106, h287, h356, h362⟩ := h
      have cm := I.cm.next (t' := t2 + 4) A (by decide)
      exact k s' p' _ (t2 + 4) .n (by decide) ⟨cm, ⟨_, h100⟩, h106, A.kept _ _ (by decide) I.s05, A.ex I.k73 (by decide), A.kept _ _ (by decide) I.g86, A.pl I.p02 (by decide), A.due I.c21 (by decide) (by decide), A.prob I.r60 (by decide), A.owed I.o05 (by decide), A.away I.away (by decide), ⟨h287, h356, h362⟩⟩ ⟨_, _, _, _, _, _, _, h95⟩
    | 1, _, C1 =>
      refine seq (n := 2) (m := 15) (p3a I.cm.size I.cm.toks I.cm.gens I.cm.kt hl hb I.cn h87 hs C0 rfl (one99 I.cm (by decide)) C1 rfl (one99 I.cm (by decide))) rfl fun s' p' h => ?_
      obtain ⟨A, h95, h100, h106, h287, h356, h367, h370⟩ := h
      have cm := I.cm.next (t' := t2 + 8) A (by decide)
      exact k s' p' _ (t2 + 8) .a (by decide) ⟨cm, ⟨_, h100⟩, h106, A.kept _ _ (by decide) I.s05, A.ex I.k73 (by decide), A.kept _ _ (by decide) I.g86, A.pl I.p02 (by decide), A.due I.c21 (by decide) (by decide), A.prob I.r60 (by decide), A.owed I.o05 (by decide), A.away I.away (by decide), ⟨h287, h356, ⟨_, _, h367⟩, h370⟩⟩ ⟨_, _, _, _, _, _, _, h95⟩
theorem st5 {c : Bool} {a : Ans} (D : Draws w uu xs cv) (hN : 1363 ≤ N) (I : Inv w uu (lst xs cv) s₀ s N t 3 (some c) (some a) false false false false false) (L : L5 w s c)
    (k : ∀ s' p' N' t' owed, 1364 ≤ N' → Inv w uu (lst xs cv) s₀ s' N' t' 4 (some c) (some a) owed false false false false → L5 w s' c → K0 w 6 14 Q p' s') : K0 w 5 15 Q p s := by
  obtain ⟨M, rfl⟩ : ∃ M, N = M + 1090 := ⟨N - 1090, by omega⟩
  obtain ⟨tb, hb⟩ := I.bx
  obtain ⟨k0, v0, k1, k2, a0, k3, k4, hl⟩ := L
  obtain ⟨r, hr, t1, ur, ub, fr, hle, C⟩ := D.d3 (t + 1) (t + 0) tb
  have hs : segOK t [(1, t1)] := ⟨hle, trivial⟩
  match r, hr, C with
  | 0, _, C =>
    refine seq (n := 1) (m := 14) (p5n0 I.cm.size I.cm.toks I.cm.gens I.cm.kt hb hs C rfl (one99 I.cm (by decide))) rfl fun s' p' h => ?_
    obtain ⟨A, h100⟩ := h
    have cm := I.cm.next (t' := t1 + 1) A (by decide)
    exact k s' p' _ (t1 + 1) false (by omega) ⟨cm, ⟨_, h100⟩, A.kept _ _ (by decide) I.cn, A.kept _ _ (by decide) I.s05, A.ex I.k73 (by decide), A.kept _ _ (by decide) I.g86, A.pl I.p02 (by decide), A.due I.c21 (by decide) (by decide), A.prob I.r60 (by decide), A.owed I.o05 (by decide), A.away I.away (by decide), A.answ I.answ (by decide)⟩ ⟨_, _, _, _, _, _, _, A.kept _ _ (by decide) hl⟩
  | 1, _, C =>
    refine seq (n := 1) (m := 14) (p5n1 I.cm.size I.cm.toks I.cm.gens I.cm.kt hb hs C rfl (one99 I.cm (by decide))) rfl fun s' p' h => ?_
    obtain ⟨A, h100⟩ := h
    have cm := I.cm.next (t' := t1 + 1) A (by decide)
    exact k s' p' _ (t1 + 1) false (by omega) ⟨cm, ⟨_, h100⟩, A.kept _ _ (by decide) I.cn, A.kept _ _ (by decide) I.s05, A.ex I.k73 (by decide), A.kept _ _ (by decide) I.g86, A.pl I.p02 (by decide), A.due I.c21 (by decide) (by decide), A.prob I.r60 (by decide), A.owed I.o05 (by decide), A.away I.away (by decide), A.answ I.answ (by decide)⟩ ⟨_, _, _, _, _, _, _, A.kept _ _ (by decide) hl⟩
  | 2, _, C =>
    refine seq (n := 1) (m := 14) (p5y I.cm.size I.cm.toks I.cm.gens I.cm.kt hl hb I.cn I.o05 hs C rfl (one99 I.cm (by decide))) rfl fun s' p' h => ?_
    obtain ⟨A, h95, h100, h106, h305⟩ := h
    have cm := I.cm.next (t' := t1 + 3) A (by decide)
    exact k s' p' _ (t1 + 3) true (by omega) ⟨cm, ⟨_, h100⟩, h106, A.kept _ _ (by decide) I.s05, A.ex I.k73 (by decide), A.kept _ _ (by decide) I.g86, A.pl I.p02 (by decide), A.due I.c21 (by decide) (by decide), A.prob I.r60 (by decide), ⟨_, h305⟩, A.away I.away (by decide), A.answ I.answ (by decide)⟩ ⟨_, _, _, _, _, _, _, h95⟩
theorem st6 {c owed : Bool} {a : Ans} (D : Draws w uu xs cv) (hN : 1364 ≤ N) (I : Inv w uu (lst xs cv) s₀ s N t 4 (some c) (some a) owed false false false false) (L : L5 w s c)
    (k : ∀ s' p' N' t' ack d, 1370 ≤ N' → Inv w uu (lst xs cv) s₀ s' N' t' 6 (some c) (some a) owed ack false false false → L8 w s' c d ack → K0 w 8 12 Q p' s') : K0 w 6 14 Q p s := by
  obtain ⟨M, rfl⟩ : ∃ M, N = M + 1090 := ⟨N - 1090, by omega⟩
  obtain ⟨tb, hb⟩ := I.bx
  obtain ⟨k0, v0, k1, k2, a0, k3, k4, hl⟩ := L
  obtain ⟨pa, pb, h02⟩ := I.p02
  obtain ⟨r0, hr0, t1, ur0, ub0, fr0, hle0, C0⟩ := D.d4 (t + 1) (t + 0) tb
  obtain ⟨r1, hr1, t2, ur1, ub1, fr1, hle1, C1⟩ := D.d5 (t1 + 2) (t1 + 1) ub0
  have hs : segOK t [(1, t1), (2, t2)] := ⟨hle0, hle1, trivial⟩
  match r0, hr0, C0, r1, hr1, C1 with
  | 0, _, C0, 0, _, C1 =>
    refine seq (n := 2) (m := 12) (p60n I.cm.size I.cm.toks I.cm.gens I.cm.kt hl hb I.cn hs C0 rfl (one99 I.cm (by decide)) C1 rfl (one99 I.cm (by decide))) rfl fun s' p' h => ?_
    obtain ⟨A, h95, h100, h106⟩ := h
    have cm := I.cm.next A (by decide)
    exact k s' p' _ _ false false (by omega) ⟨cm, ⟨_, h100⟩, h106, A.kept _ _ (by decide) I.s05, A.ex I.k73 (by decide), A.kept _ _ (by decide) I.g86, A.pl I.p02 (by decide), A.due I.c21 (by decide) (by decide), A.prob I.r60 (by decide), A.owed I.o05 (by decide), A.away I.away (by decide), A.answ I.answ (by decide)⟩ ⟨_, _, _, _, _, _, _, _, _, _, _, h95⟩
  | 0, _, C0, 1, _, C1 =>
    refine seq (n := 2) (m := 12) (p60y I.cm.size I.cm.toks I.cm.gens I.cm.kt hl hb I.cn hs C0 rfl (one99 I.cm (by decide)) C1 rfl (one99 I.cm (by decide))) rfl fun s' p' h => ?_
    obtain ⟨A, h95, h100, h106⟩ := h
    have cm := I.cm.next A (by decide)
    exact k s' p' _ _ false true (by omega) ⟨cm, ⟨_, h100⟩, h106, A.kept _ _ (by decide) I.s05, A.ex I.k73 (by decide), A.kept _ _ (by decide) I.g86, A.pl I.p02 (by decide), A.due I.c21 (by decide) (by decide), A.prob I.r60 (by decide), A.owed I.o05 (by decide), A.away I.away (by decide), A.answ I.answ (by decide)⟩ ⟨_, _, _, _, _, _, _, _, _, _, _, h95⟩
  | 1, _, C0, 0, _, C1 =>
    refine seq (n := 2) (m := 12) (p61n I.cm.size I.cm.toks I.cm.gens I.cm.kt hl hb I.cn hs C0 rfl (one99 I.cm (by decide)) C1 rfl (one99 I.cm (by decide))) rfl fun s' p' h => ?_
    obtain ⟨A, h95, h100, h106⟩ := h
    have cm := I.cm.next A (by decide)
    exact k s' p' _ _ false false (by omega) ⟨cm, ⟨_, h100⟩, h106, A.kept _ _ (by decide) I.s05, A.ex I.k73 (by decide), A.kept _ _ (by decide) I.g86, A.pl I.p02 (by decide), A.due I.c21 (by decide) (by decide), A.prob I.r60 (by decide), A.owed I.o05 (by decide), A.away I.away (by decide), A.answ I.answ (by decide)⟩ ⟨_, _, _, _, _, _, _, _, _, _, _, h95⟩
  | 1, _, C0, 1, _, C1 =>
    refine seq (n := 2) (m := 12) (p61y I.cm.size I.cm.toks I.cm.gens I.cm.kt hl hb I.cn hs C0 rfl (one99 I.cm (by decide)) C1 rfl (one99 I.cm (by decide))) rfl fun s' p' h => ?_
    obtain ⟨A, h95, h100, h106⟩ := h
    have cm := I.cm.next A (by decide)
    exact k s' p' _ _ false true (by omega) ⟨cm, ⟨_, h100⟩, h106, A.kept _ _ (by decide) I.s05, A.ex I.k73 (by decide), A.kept _ _ (by decide) I.g86, A.pl I.p02 (by decide), A.due I.c21 (by decide) (by decide), A.prob I.r60 (by decide), A.owed I.o05 (by decide), A.away I.away (by decide), A.answ I.answ (by decide)⟩ ⟨_, _, _, _, _, _, _, _, _, _, _, h95⟩
  | 2, _, C0, 0, _, C1 =>
    refine seq (n := 2) (m := 12) (p62n I.cm.size I.cm.toks I.cm.gens I.cm.kt hl hb I.cn h02 hs C0 rfl (one99 I.cm (by decide)) C1 rfl (one99 I.cm (by decide))) rfl fun s' p' h => ?_
    obtain ⟨A, h95, h100, h106, h202⟩ := h
    have cm := I.cm.next A (by decide)
    exact k s' p' _ _ true false (by omega) ⟨cm, ⟨_, h100⟩, h106, A.kept _ _ (by decide) I.s05, A.ex I.k73 (by decide), A.kept _ _ (by decide) I.g86, ⟨_, _, _, _, _, _, _, _, h202⟩, A.due I.c21 (by decide) (by decide), A.prob I.r60 (by decide), A.owed I.o05 (by decide), A.away I.away (by decide), A.answ I.answ (by decide)⟩ ⟨_, _, _, _, _, _, _, _, _, _, _, h95⟩
  | 2, _, C0, 1, _, C1 =>
    refine seq (n := 2) (m := 12) (p62y I.cm.size I.cm.toks I.cm.gens I.cm.kt hl hb I.cn h02 hs C0 rfl (one99 I.cm (by decide)) C1 rfl (one99 I.cm (by decide))) rfl fun s' p' h => ?_
    obtain ⟨A, h95, h100, h106, h202⟩ := h
    have cm := I.cm.next A (by decide)
    exact k s' p' _ _ true true (by omega) ⟨cm, ⟨_, h100⟩, h106, A.kept _ _ (by decide) I.s05, A.ex I.k73 (by decide), A.kept _ _ (by decide) I.g86, ⟨_, _, _, _, _, _, _, _, h202⟩, A.due I.c21 (by decide) (by decide), A.prob I.r60 (by decide), A.owed I.o05 (by decide), A.away I.away (by decide), A.answ I.answ (by decide)⟩ ⟨_, _, _, _, _, _, _, _, _, _, _, h95⟩
theorem st8 {c owed ack d : Bool} {a : Ans} (hN : 1370 ≤ N) (I : Inv w uu (lst xs cv) s₀ s N t 6 (some c) (some a) owed ack false false false) (L : L8 w s c d ack)
    (k : ∀ s' p' N' t', 1370 ≤ N' → Inv w uu (lst xs cv) s₀ s' N' t' 6 (some c) (some a) owed ack d false false → L8 w s' c d ack → K0 w 9 11 Q p' s') : K0 w 8 12 Q p s := by
  obtain ⟨M, rfl⟩ : ∃ M, N = M + 1090 := ⟨N - 1090, by omega⟩
  obtain ⟨k0, v0, k1, k2, a0, k3, k4, k5, k6, dd, k7, hl⟩ := L
  obtain ⟨v21, h21⟩ := I.c21
  cases d with
  | false =>
    refine seq (n := 1) (m := 11) (p8n I.cm.size I.cm.toks I.cm.gens I.cm.kt hl) rfl fun s' p' h => ?_
    obtain ⟨A, h95⟩ := h
    have cm := I.cm.next A (by decide)
    exact k s' p' _ _ (by omega) ⟨cm, A.ex I.bx (by decide), A.kept _ _ (by decide) I.cn, A.kept _ _ (by decide) I.s05, A.ex I.k73 (by decide), A.kept _ _ (by decide) I.g86, A.pl I.p02 (by decide), A.due I.c21 (by decide) (by decide), A.prob I.r60 (by decide), A.owed I.o05 (by decide), A.away I.away (by decide), A.answ I.answ (by decide)⟩ ⟨_, _, _, _, _, _, _, _, _, _, _, h95⟩
  | true =>
    refine seq (n := 1) (m := 11) (p8y I.cm.size I.cm.toks I.cm.gens I.cm.kt hl I.cn h21) rfl fun s' p' h => ?_
    obtain ⟨A, h95, h106, h221, hdue⟩ := h
    have cm := I.cm.next A (by decide)
    have e : M + 1090 + 12 = (M + 12) + 1090 := by omega
    rw [e] at h221 hdue
    exact k s' p' _ _ (by omega) ⟨cm, A.ex I.bx (by decide), h106, A.kept _ _ (by decide) I.s05, A.ex I.k73 (by decide), A.kept _ _ (by decide) I.g86, A.pl I.p02 (by decide), ⟨_, M + 12, _, h221, hdue, by omega⟩, A.prob I.r60 (by decide), A.owed I.o05 (by decide), A.away I.away (by decide), A.answ I.answ (by decide)⟩ ⟨_, _, _, _, _, _, _, _, _, _, _, h95⟩
theorem st9 {c owed ack d : Bool} {a : Ans} (D : Draws w uu xs cv) (hN : 1370 ≤ N) (I : Inv w uu (lst xs cv) s₀ s N t 6 (some c) (some a) owed ack d false false) (L : L8 w s c d ack)
    (k : ∀ s' p' N' t' gone prob, 1370 ≤ N' → Inv w uu (lst xs cv) s₀ s' N' t' 8 (some c) (some a) owed ack d gone prob → L8 w s' c d ack → K0 w 10 10 Q p' s') : K0 w 9 11 Q p s := by
  obtain ⟨M, rfl⟩ : ∃ M, N = M + 1090 := ⟨N - 1090, by omega⟩
  obtain ⟨tb, hb⟩ := I.bx
  obtain ⟨k0, v0, k1, k2, a0, k3, k4, k5, k6, dd, k7, hl⟩ := L
  obtain ⟨ra, rb, h60⟩ := I.r60
  obtain ⟨r0, hr0, t1, ur0, ub0, fr0, hle0, C0⟩ := D.d6 (t + 1) (t + 0) tb
  obtain ⟨r1, hr1, t2, ur1, ub1, fr1, hle1, C1⟩ := D.d7 (t1 + 5) (t1 + 4) ub0
  have hs : segOK t [(1, t1), (5, t2)] := ⟨hle0, hle1, trivial⟩
  match r0, hr0, C0, r1, hr1, C1 with
  | 0, _, C0, 0, _, C1 =>
    refine seq (n := 1) (m := 10) (p900 I.cm.size I.cm.toks I.cm.gens I.cm.kt hl hb I.cn I.g86 h60 hs C0 rfl (one99 I.cm (by decide)) C1 rfl (one99 I.cm (by decide))) rfl fun s' p' h => ?_
    obtain ⟨A, h95, h100, h106, h186, h260⟩ := h
    have cm := I.cm.next A (by decide)
    exact k s' p' _ _ false false (by omega) ⟨cm, ⟨_, h100⟩, h106, A.kept _ _ (by decide) I.s05, A.ex I.k73 (by decide), h186, A.pl I.p02 (by decide), A.due I.c21 (by decide) (by decide), ⟨_, _, h260⟩, A.owed I.o05 (by decide), A.away I.away (by decide), A.answ I.answ (by decide)⟩ ⟨_, _, _, _, _, _, _, _, _, _, _, h95⟩
  | 0, _, C0, 1, _, C1 =>
    refine seq (n := 1) (m := 10) (p901 I.cm.size I.cm.toks I.cm.gens I.cm.kt hl hb I.cn I.g86 h60 hs C0 rfl (one99 I.cm (by decide)) C1 rfl (one99 I.cm (by decide))) rfl fun s' p' h => ?_
    obtain ⟨A, h95, h100, h106, h186, h260⟩ := h
    have cm := I.cm.next A (by decide)
    exact k s' p' _ _ false false (by omega) ⟨cm, ⟨_, h100⟩, h106, A.kept _ _ (by decide) I.s05, A.ex I.k73 (by decide), h186, A.pl I.p02 (by decide), A.due I.c21 (by decide) (by decide), ⟨_, _, h260⟩, A.owed I.o05 (by decide), A.away I.away (by decide), A.answ I.answ (by decide)⟩ ⟨_, _, _, _, _, _, _, _, _, _, _, h95⟩
  | 0, _, C0, 2, _, C1 =>
    refine seq (n := 1) (m := 10) (p902 I.cm.size I.cm.toks I.cm.gens I.cm.kt hl hb I.cn I.g86 h60 hs C0 rfl (one99 I.cm (by decide)) C1 rfl (one99 I.cm (by decide))) rfl fun s' p' h => ?_
    obtain ⟨A, h95, h100, h106, h186, h260⟩ := h
    have cm := I.cm.next A (by decide)
    exact k s' p' _ _ false true (by omega) ⟨cm, ⟨_, h100⟩, h106, A.kept _ _ (by decide) I.s05, A.ex I.k73 (by decide), h186, A.pl I.p02 (by decide), A.due I.c21 (by decide) (by decide), ⟨_, _, h260⟩, A.owed I.o05 (by decide), A.away I.away (by decide), A.answ I.answ (by decide)⟩ ⟨_, _, _, _, _, _, _, _, _, _, _, h95⟩
  | 1, _, C0, 0, _, C1 =>
    refine seq (n := 1) (m := 10) (p910 I.cm.size I.cm.toks I.cm.gens I.cm.kt hl hb I.cn I.g86 h60 hs C0 rfl (one99 I.cm (by decide)) C1 rfl (one99 I.cm (by decide))) rfl fun s' p' h => ?_
    obtain ⟨A, h95, h100, h106, h186, h260⟩ := h
    have cm := I.cm.next A (by decide)
    exact k s' p' _ _ true false (by omega) ⟨cm, ⟨_, h100⟩, h106, A.kept _ _ (by decide) I.s05, A.ex I.k73 (by decide), h186, A.pl I.p02 (by decide), A.due I.c21 (by decide) (by decide), ⟨_, _, h260⟩, A.owed I.o05 (by decide), A.away I.away (by decide), A.answ I.answ (by decide)⟩ ⟨_, _, _, _, _, _, _, _, _, _, _, h95⟩
  | 1, _, C0, 1, _, C1 =>
    refine seq (n := 1) (m := 10) (p911 I.cm.size I.cm.toks I.cm.gens I.cm.kt hl hb I.cn I.g86 h60 hs C0 rfl (one99 I.cm (by decide)) C1 rfl (one99 I.cm (by decide))) rfl fun s' p' h => ?_
    obtain ⟨A, h95, h100, h106, h186, h260⟩ := h
    have cm := I.cm.next A (by decide)
    exact k s' p' _ _ true false (by omega) ⟨cm, ⟨_, h100⟩, h106, A.kept _ _ (by decide) I.s05, A.ex I.k73 (by decide), h186, A.pl I.p02 (by decide), A.due I.c21 (by decide) (by decide), ⟨_, _, h260⟩, A.owed I.o05 (by decide), A.away I.away (by decide), A.answ I.answ (by decide)⟩ ⟨_, _, _, _, _, _, _, _, _, _, _, h95⟩
  | 1, _, C0, 2, _, C1 =>
    refine seq (n := 1) (m := 10) (p912 I.cm.size I.cm.toks I.cm.gens I.cm.kt hl hb I.cn I.g86 h60 hs C0 rfl (one99 I.cm (by decide)) C1 rfl (one99 I.cm (by decide))) rfl fun s' p' h => ?_
    obtain ⟨A, h95, h100, h106, h186, h260⟩ := h
    have cm := I.cm.next A (by decide)
    exact k s' p' _ _ true true (by omega) ⟨cm, ⟨_, h100⟩, h106, A.kept _ _ (by decide) I.s05, A.ex I.k73 (by decide), h186, A.pl I.p02 (by decide), A.due I.c21 (by decide) (by decide), ⟨_, _, h260⟩, A.owed I.o05 (by decide), A.away I.away (by decide), A.answ I.answ (by decide)⟩ ⟨_, _, _, _, _, _, _, _, _, _, _, h95⟩
end
end Mine
end
section
set_option maxRecDepth 100000
set_option linter.unusedVariables false
open PySem PySem.W PySem.Calls PyProof.Rows
open PySem.Sem (wp)
namespace Mine
theorem zip_fa {P : Addr × Obj → Prop} {a : Addr} {o : Obj} {l : List Addr} {m : List Obj} (h : P (a, o)) (k : ∀ x ∈ l.zip m, P x) : ∀ x ∈ (a :: l).zip (o :: m), P x := fun x hx => by
  rw [List.zip_cons_cons] at hx
  rcases List.mem_cons.mp hx with rfl | hx
  · exact h
  · exact k x hx
theorem zip_ni {P : Addr × Obj → Prop} : ∀ x ∈ ([] : List Addr).zip ([] : List Obj), P x := fun x hx => by simp at hx
noncomputable def fDueB (w : World) (uu : Nat) (s : Shared) (hi : Nat) : Bool → Prop
  | false => ∃ v, Hs s 1221 (sh1221 w.params uu (.bytes #[] (v + 1837)) (.ref 1224))
  | true => ∃ (v : Value) (aD : Nat) (x : Value), Hs s 1221 (sh1221 w.params uu v (.ref (aD + 1090))) ∧ Hs s (aD + 1090) ⟨(.type "list"), none, (.seq #[x] 0), #[]⟩ ∧ 1379 ≤ aD + 1090 ∧ aD + 1090 < hi
noncomputable def fN (s : Shared) (aA : Nat) : Nat → Prop
  | 0 => Hs s (aA + 1090) ⟨(.type "list"), none, (.seq #[] 0), #[]⟩
  | 1 => ∃ v, Hs s (aA + 1090) ⟨(.type "list"), none, (.seq #[v] 1), #[]⟩
  | _ => ∃ v u, Hs s (aA + 1090) ⟨(.type "list"), none, (.seq #[v, u] 1), #[]⟩
structure Sil (w : World) (uu : Nat) (s : Shared) (owed ack data gone prob : Bool) (n aA hi : Nat) : Prop where
  cn : ∃ v, Hs s 1106 (sh1106 w.params uu v)
  g86 : Hs s 1186 (sh1186 w.params uu (.bool gone))
  p02 : ∃ v1 v2 v3 v4 v5 v6 v7 v8 fu, Hs s 1202 (sh1202 w.params uu v1 v2 v3 v4 v5 (cond ack (iv 1000 (fu + 1837)) .none) v6 v7 v8)
  c21 : fDueB w uu s hi data
  r60 : fProb w uu s prob
  o05 : fOwed s owed
  t87 : Hs s 1287 (sh1287 w.params uu (.ref (aA + 1090)))
  ans : fN s aA n
  big : 1333 ≤ aA + 1090
noncomputable def waitsOf (owed ack data gone prob : Bool) : Bool := owed || ack || prob || (data && !gone)
noncomputable abbrev silC : Code := .call (.ref 459) ⟨[(.ref 1107)], []⟩
noncomputable def SilOK (w : World) (uu : Nat) (s : Shared) (P : Nat → Prop) (t : Nat) (v : Bool) (L : Nat) : Prop :=
  ∃ t1 new q, t ≤ t1 ∧ CallOK [lawCode] w (kt2 w.params uu) silC (t + 1837) (t1 + 1837) [] q (.bool v) [] new ∧ (∀ M, (new M).length = L) ∧ ∀ x ∈ q, s.heap.get? x.1 = some x.2 ∧ P x.1
theorem nodup8 {a : Nat} (h : 1333 ≤ a) : [1106, 1186, 1221, 1202, 1260, 1305, 1287, a].Nodup := by
  simp only [List.nodup_cons, List.mem_cons, List.not_mem_nil, or_false, not_or, not_false_eq_true, List.nodup_nil, and_true]
  refine ⟨⟨by decide, by decide, by decide, by decide, by decide, by decide, ?_⟩, ⟨by decide, by decide, by decide, by decide, by decide, ?_⟩, ⟨by decide, by decide, by decide, by decide, ?_⟩, ⟨by decide, by decide, by decide, ?_⟩, ⟨by decide, by decide, ?_⟩, ⟨by decide, ?_⟩, ?_⟩ <;> (intro e; rw [← e] at h; exact absurd h (by decide))
theorem nodup4 {a : Nat} (h : 1333 ≤ a) : [1106, 1186, 1221, a].Nodup := by
  simp only [List.nodup_cons, List.mem_cons, List.not_mem_nil, or_false, not_or, not_false_eq_true, List.nodup_nil, and_true]
  refine ⟨⟨by decide, by decide, ?_⟩, ⟨by decide, ?_⟩, ?_⟩ <;> (intro e; rw [← e] at h; exact absurd h (by decide))
theorem due_any {w : World} {uu hi : Nat} {s : Shared} {data : Bool} (h : fDueB w uu s hi data) : ∃ v u, Hs s 1221 (sh1221 w.params uu v u) := by
  cases data with
  | false => obtain ⟨v, h⟩ := h; exact ⟨_, _, h⟩
  | true => obtain ⟨v, aD, x, h, _⟩ := h; exact ⟨_, _, h⟩
theorem silent {w : World} {uu : Nat} {s : Shared} {owed ack data gone prob : Bool} {n aA hi : Nat} {P : Nat → Prop} (S : Sil w uu s owed ack data gone prob n aA hi)
    (hP : ∀ a ∈ [1106, 1186, 1202, 1221, 1260, 1305, 1287], P a) (hA : P (aA + 1090)) (hD : ∀ b, 1379 ≤ b → b < hi → P b) (t : Nat) :
    (waitsOf owed ack data gone prob = true ∧ ∃ L, (L = 2 ∨ L = 4 ∨ L = 5 ∨ L = 7) ∧ SilOK w uu s P t false L) ∨
    (waitsOf owed ack data gone prob = false ∧ n ≠ 0 ∧ SilOK w uu s P t false 7) ∨ (waitsOf owed ack data gone prob = false ∧ n = 0 ∧ SilOK w uu s P t true 8) := by
  obtain ⟨vc, cn⟩ := S.cn
  obtain ⟨v1, v2, v3, v4, v5, v6, v7, v8, fu, p02⟩ := S.p02
  obtain ⟨ra, rb, r60⟩ := S.r60
  have h86 := S.g86
  have h87 := S.t87
  have q1106 : P 1106 := hP _ (by decide)
  have q1186 : P 1186 := hP _ (by decide)
  have q1202 : P 1202 := hP _ (by decide)
  have q1221 : P 1221 := hP _ (by decide)
  have q1260 : P 1260 := hP _ (by decide)
  have q1305 : P 1305 := hP _ (by decide)
  have q1287 : P 1287 := hP _ (by decide)
  by_cases hd : data = true ∧ gone = false
  · obtain ⟨rfl, rfl⟩ := hd
    obtain ⟨v, aD, x, h1, h2, h3, h4⟩ := S.c21
    have h5 : 1333 ≤ aD + 1090 := by omega
    exact .inl ⟨by simp [waitsOf], 2, .inl rfl, _, _, _, Nat.le_add_right _ _, sd (a0 := aD) h5 (nodup4 h5), fun _ => rfl, zip_fa ⟨cn, q1106⟩ <| zip_fa ⟨h86, q1186⟩ <| zip_fa ⟨h1, q1221⟩ <| zip_fa ⟨h2, hD _ h3 h4⟩ <| zip_ni⟩
  · cases gone with
    | true =>
      obtain ⟨y1, y2, h21⟩ := due_any S.c21
      cases prob with
      | true => exact .inl ⟨by simp [waitsOf], 4, .inr (.inl rfl), _, _, _, Nat.le_add_right _ _, sgp, fun _ => rfl, zip_fa ⟨cn, q1106⟩ <| zip_fa ⟨h86, q1186⟩ <| zip_fa ⟨h21, q1221⟩ <| zip_fa ⟨p02, q1202⟩ <| zip_fa ⟨r60, q1260⟩ <| zip_ni⟩
      | false =>
        cases ack with
        | true => exact .inl ⟨by simp [waitsOf], 5, .inr (.inr (.inl rfl)), _, _, _, Nat.le_add_right _ _, sga, fun _ => rfl, zip_fa ⟨cn, q1106⟩ <| zip_fa ⟨h86, q1186⟩ <| zip_fa ⟨h21, q1221⟩ <| zip_fa ⟨p02, q1202⟩ <| zip_fa ⟨r60, q1260⟩ <| zip_ni⟩
        | false =>
          cases owed with
          | true =>
            obtain ⟨vo, ho⟩ := S.o05
            exact .inl ⟨by simp [waitsOf], 7, .inr (.inr (.inr rfl)), _, _, _, Nat.le_add_right _ _, sgo, fun _ => rfl, zip_fa ⟨cn, q1106⟩ <| zip_fa ⟨h86, q1186⟩ <| zip_fa ⟨h21, q1221⟩ <| zip_fa ⟨p02, q1202⟩ <| zip_fa ⟨r60, q1260⟩ <| zip_fa ⟨ho, q1305⟩ <| zip_ni⟩
          | false =>
            have ho : Hs s 1305 ⟨(.type "list"), none, (.seq #[] 0), #[]⟩ := S.o05
            match n, S.ans with
            | 0, ha => exact .inr (.inr ⟨by simp [waitsOf], rfl, _, _, _, Nat.le_add_right _ _, sgt (a1 := aA) S.big (nodup8 S.big), fun _ => rfl, zip_fa ⟨cn, q1106⟩ <| zip_fa ⟨h86, q1186⟩ <| zip_fa ⟨h21, q1221⟩ <| zip_fa ⟨p02, q1202⟩ <| zip_fa ⟨r60, q1260⟩ <| zip_fa ⟨ho, q1305⟩ <| zip_fa ⟨h87, q1287⟩ <| zip_fa ⟨ha, hA⟩ <| zip_ni⟩)
            | 1, ⟨x1, ha⟩ => exact .inr (.inl ⟨by simp [waitsOf], by decide, _, _, _, Nat.le_add_right _ _, sg1 (a1 := aA) S.big (nodup8 S.big), fun _ => rfl, zip_fa ⟨cn, q1106⟩ <| zip_fa ⟨h86, q1186⟩ <| zip_fa ⟨h21, q1221⟩ <| zip_fa ⟨p02, q1202⟩ <| zip_fa ⟨r60, q1260⟩ <| zip_fa ⟨ho, q1305⟩ <| zip_fa ⟨h87, q1287⟩ <| zip_fa ⟨ha, hA⟩ <| zip_ni⟩)
            | m + 2, ⟨x1, x2, ha⟩ => exact .inr (.inl ⟨by simp [waitsOf], by omega, _, _, _, Nat.le_add_right _ _, sg2 (a1 := aA) S.big (nodup8 S.big), fun _ => rfl, zip_fa ⟨cn, q1106⟩ <| zip_fa ⟨h86, q1186⟩ <| zip_fa ⟨h21, q1221⟩ <| zip_fa ⟨p02, q1202⟩ <| zip_fa ⟨r60, q1260⟩ <| zip_fa ⟨ho, q1305⟩ <| zip_fa ⟨h87, q1287⟩ <| zip_fa ⟨ha, hA⟩ <| zip_ni⟩)
    | false =>
      cases data with
      | true => exact absurd ⟨rfl, rfl⟩ hd
      | false =>
        obtain ⟨y1, h21⟩ := S.c21
        cases prob with
        | true => exact .inl ⟨by simp [waitsOf], 4, .inr (.inl rfl), _, _, _, Nat.le_add_right _ _, sep, fun _ => rfl, zip_fa ⟨cn, q1106⟩ <| zip_fa ⟨h86, q1186⟩ <| zip_fa ⟨h21, q1221⟩ <| zip_fa ⟨p02, q1202⟩ <| zip_fa ⟨r60, q1260⟩ <| zip_ni⟩
        | false =>
          cases ack with
          | true => exact .inl ⟨by simp [waitsOf], 5, .inr (.inr (.inl rfl)), _, _, _, Nat.le_add_right _ _, sea, fun _ => rfl, zip_fa ⟨cn, q1106⟩ <| zip_fa ⟨h86, q1186⟩ <| zip_fa ⟨h21, q1221⟩ <| zip_fa ⟨p02, q1202⟩ <| zip_fa ⟨r60, q1260⟩ <| zip_ni⟩
          | false =>
            cases owed with
            | true =>
              obtain ⟨vo, ho⟩ := S.o05
              exact .inl ⟨by simp [waitsOf], 7, .inr (.inr (.inr rfl)), _, _, _, Nat.le_add_right _ _, seo, fun _ => rfl, zip_fa ⟨cn, q1106⟩ <| zip_fa ⟨h86, q1186⟩ <| zip_fa ⟨h21, q1221⟩ <| zip_fa ⟨p02, q1202⟩ <| zip_fa ⟨r60, q1260⟩ <| zip_fa ⟨ho, q1305⟩ <| zip_ni⟩
            | false =>
              have ho : Hs s 1305 ⟨(.type "list"), none, (.seq #[] 0), #[]⟩ := S.o05
              match n, S.ans with
              | 0, ha => exact .inr (.inr ⟨by simp [waitsOf], rfl, _, _, _, Nat.le_add_right _ _, set (a1 := aA) S.big (nodup8 S.big), fun _ => rfl, zip_fa ⟨cn, q1106⟩ <| zip_fa ⟨h86, q1186⟩ <| zip_fa ⟨h21, q1221⟩ <| zip_fa ⟨p02, q1202⟩ <| zip_fa ⟨r60, q1260⟩ <| zip_fa ⟨ho, q1305⟩ <| zip_fa ⟨h87, q1287⟩ <| zip_fa ⟨ha, hA⟩ <| zip_ni⟩)
              | 1, ⟨x1, ha⟩ => exact .inr (.inl ⟨by simp [waitsOf], by decide, _, _, _, Nat.le_add_right _ _, se1 (a1 := aA) S.big (nodup8 S.big), fun _ => rfl, zip_fa ⟨cn, q1106⟩ <| zip_fa ⟨h86, q1186⟩ <| zip_fa ⟨h21, q1221⟩ <| zip_fa ⟨p02, q1202⟩ <| zip_fa ⟨r60, q1260⟩ <| zip_fa ⟨ho, q1305⟩ <| zip_fa ⟨h87, q1287⟩ <| zip_fa ⟨ha, hA⟩ <| zip_ni⟩)
              | m + 2, ⟨x1, x2, ha⟩ => exact .inr (.inl ⟨by simp [waitsOf], by omega, _, _, _, Nat.le_add_right _ _, se2 (a1 := aA) S.big (nodup8 S.big), fun _ => rfl, zip_fa ⟨cn, q1106⟩ <| zip_fa ⟨h86, q1186⟩ <| zip_fa ⟨h21, q1221⟩ <| zip_fa ⟨p02, q1202⟩ <| zip_fa ⟨r60, q1260⟩ <| zip_fa ⟨ho, q1305⟩ <| zip_fa ⟨h87, q1287⟩ <| zip_fa ⟨ha, hA⟩ <| zip_ni⟩)
section
variable {w : World} {uu N t cv : Nat} {xs : Array Value} {s₀ s : Shared} {p : Pos} {Q : Flow → Pos → Shared → Prop}
theorem st10 {c owed ack d gone prob : Bool} {a : Ans} (hN : 1370 ≤ N) (I : Inv w uu (lst xs cv) s₀ s N t 8 (some c) (some a) owed ack d gone prob) (L : L8 w s c d ack)
    (k : ∀ s' p' N' t', 1370 ≤ N' → Inv w uu (lst xs cv) s₀ s' N' t' 8 (some c) (some a) owed ack d gone prob → L9 w s' c (waitsOf owed ack d gone prob) → K0 w 11 9 Q p' s') : K0 w 10 10 Q p s := by
  obtain ⟨M, rfl⟩ : ∃ M, N = M + 1090 := ⟨N - 1090, by omega⟩
  obtain ⟨k0, v0, k1, k2, a0, k3, k4, k5, k6, dd, k7, hl⟩ := L
  obtain ⟨ra, rb, h60⟩ := I.r60
  have ho5 := I.o05
  have h86 := I.g86
  cases owed with
  | true =>
    obtain ⟨vo, ho⟩ := ho5
    refine seq (n := 1) (m := 9) (p10o I.cm.size I.cm.toks I.cm.gens I.cm.kt hl I.cn ho) rfl fun s' p' h => ?_
    obtain ⟨A, h95, h106, h305⟩ := h
    have cm := I.cm.next A (by decide)
    exact k s' p' _ _ (by omega) ⟨cm, A.ex I.bx (by decide), h106, A.kept _ _ (by decide) I.s05, A.ex I.k73 (by decide), A.kept _ _ (by decide) I.g86, A.pl I.p02 (by decide), A.due I.c21 (by decide) (by decide), A.prob I.r60 (by decide), ⟨_, h305⟩, A.away I.away (by decide), A.answ I.answ (by decide)⟩ ⟨_, _, _, _, _, _, _, _, _, _, _, _, _, _, h95⟩
  | false =>
    have ho : Hs s 1305 ⟨(.type "list"), none, (.seq #[] 0), #[]⟩ := ho5
    cases ack with
    | true =>
      refine seq (n := 1) (m := 9) (p10a I.cm.size I.cm.toks I.cm.gens I.cm.kt hl I.cn ho) rfl fun s' p' h => ?_
      obtain ⟨A, h95, h106, h305⟩ := h
      have cm := I.cm.next A (by decide)
      exact k s' p' _ _ (by omega) ⟨cm, A.ex I.bx (by decide), h106, A.kept _ _ (by decide) I.s05, A.ex I.k73 (by decide), A.kept _ _ (by decide) I.g86, A.pl I.p02 (by decide), A.due I.c21 (by decide) (by decide), A.prob I.r60 (by decide), h305, A.away I.away (by decide), A.answ I.answ (by decide)⟩ ⟨_, _, _, _, _, _, _, _, _, _, _, _, _, _, h95⟩
    | false =>
      cases prob with
      | true =>
        refine seq (n := 1) (m := 9) (p10p I.cm.size I.cm.toks I.cm.gens I.cm.kt hl I.cn ho h60) rfl fun s' p' h => ?_
        obtain ⟨A, h95, h106, h305, h260⟩ := h
        have cm := I.cm.next A (by decide)
        exact k s' p' _ _ (by omega) ⟨cm, A.ex I.bx (by decide), h106, A.kept _ _ (by decide) I.s05, A.ex I.k73 (by decide), A.kept _ _ (by decide) I.g86, A.pl I.p02 (by decide), A.due I.c21 (by decide) (by decide), ⟨_, _, h260⟩, h305, A.away I.away (by decide), A.answ I.answ (by decide)⟩ ⟨_, _, _, _, _, _, _, _, _, _, _, _, _, _, h95⟩
      | false =>
        cases d with
        | false =>
          refine seq (n := 1) (m := 9) (p10n I.cm.size I.cm.toks I.cm.gens I.cm.kt hl I.cn ho h60) rfl fun s' p' h => ?_
          obtain ⟨A, h95, h106, h305, h260⟩ := h
          have cm := I.cm.next A (by decide)
          exact k s' p' _ _ (by omega) ⟨cm, A.ex I.bx (by decide), h106, A.kept _ _ (by decide) I.s05, A.ex I.k73 (by decide), A.kept _ _ (by decide) I.g86, A.pl I.p02 (by decide), A.due I.c21 (by decide) (by decide), ⟨_, _, h260⟩, h305, A.away I.away (by decide), A.answ I.answ (by decide)⟩ ⟨_, _, _, _, _, _, _, _, _, _, _, _, _, _, h95⟩
        | true =>
          cases gone with
          | true =>
            refine seq (n := 1) (m := 9) (p10g I.cm.size I.cm.toks I.cm.gens I.cm.kt hl I.cn ho h60 h86) rfl fun s' p' h => ?_
            obtain ⟨A, h95, h106, h305, h260, h186⟩ := h
            have cm := I.cm.next A (by decide)
            exact k s' p' _ _ (by omega) ⟨cm, A.ex I.bx (by decide), h106, A.kept _ _ (by decide) I.s05, A.ex I.k73 (by decide), h186, A.pl I.p02 (by decide), A.due I.c21 (by decide) (by decide), ⟨_, _, h260⟩, h305, A.away I.away (by decide), A.answ I.answ (by decide)⟩ ⟨_, _, _, _, _, _, _, _, _, _, _, _, _, _, h95⟩
          | false =>
            refine seq (n := 1) (m := 9) (p10d I.cm.size I.cm.toks I.cm.gens I.cm.kt hl I.cn ho h60 h86) rfl fun s' p' h => ?_
            obtain ⟨A, h95, h106, h305, h260, h186⟩ := h
            have cm := I.cm.next A (by decide)
            exact k s' p' _ _ (by omega) ⟨cm, A.ex I.bx (by decide), h106, A.kept _ _ (by decide) I.s05, A.ex I.k73 (by decide), h186, A.pl I.p02 (by decide), A.due I.c21 (by decide) (by decide), ⟨_, _, h260⟩, h305, A.away I.away (by decide), A.answ I.answ (by decide)⟩ ⟨_, _, _, _, _, _, _, _, _, _, _, _, _, _, h95⟩
noncomputable def numA : Ans → Nat
  | .n => 0
  | .h => 1
  | .a => 1
  | .b => 2
noncomputable def numS : Ans → Nat
  | .n => 0
  | .h => 1
  | .a => 0
  | .b => 1
noncomputable def adA : Ans → Nat
  | .n => 272
  | .h => 280
  | .a => 280
  | .b => 288
theorem pl_any {c : Bool} (h : fPl w uu s c) : ∃ a v1 v2 v3 v4 v6 v7 v8 fu, Hs s 1202 (sh1202 w.params uu (iv 0 (a + 1837)) v1 v2 v3 v4 (cond c (iv 1000 (fu + 1837)) .none) v6 v7 v8) := by
  cases c with
  | false => obtain ⟨a, b, h⟩ := h; exact ⟨a, _, _, _, _, _, _, _, 0, h⟩
  | true => obtain ⟨a, r, ls, lt, fu, un, wn, hn, h⟩ := h; exact ⟨a, _, _, _, _, _, _, _, fu, h⟩
theorem due_b {data : Bool} (h : fDue w uu s data) : fDueB w uu s s.heap.objs.size data := by
  cases data with
  | false => exact h
  | true => obtain ⟨v, aD, x, h1, h2, h3⟩ := h; exact ⟨v, aD, x, h1, h2, h3, Heap.lt_size h2⟩
theorem sil_of {c owed ack d gone prob : Bool} {a : Ans} {k : Nat} (I : Inv w uu (lst xs cv) s₀ s N t k (some c) (some a) owed ack d gone prob) : Sil w uu s owed ack d gone prob (numA a) (adA a) s.heap.objs.size := by
  obtain ⟨pa, v1, v2, v3, v4, v6, v7, v8, fu, h02⟩ := pl_any I.p02
  have ha := I.answ
  refine ⟨⟨_, I.cn⟩, I.g86, ⟨_, _, _, _, _, _, _, _, _, h02⟩, due_b I.c21, I.r60, I.o05, ?_, ?_, ?_⟩
  · cases a <;> exact ha.1
  · cases a with
    | n => exact ha.2.2
    | h => exact ⟨_, ha.2.2.2⟩
    | a => exact ⟨_, ha.2.2.2⟩
    | b => exact ⟨_, _, ha.2.2.2.2⟩
  · cases a <;> decide
theorem lenN {α : Type} {n : Nat} {l : List α} (h : l.length = n + 1) : ∃ a r, l = a :: r ∧ r.length = n := by
  cases l with
  | nil => exact absurd h (by simp)
  | cons a r => exact ⟨a, r, rfl, by simpa using h⟩
theorem len0 {α : Type} {l : List α} (h : l.length = 0) : l = [] := List.length_eq_zero_iff.mp h
theorem len2 {α : Type} {l : List α} (h0 : l.length = 2) : ∃ x0 x1, l = [x0, x1] := by
  obtain ⟨x0, l1, e0, h1⟩ := lenN h0
  obtain ⟨x1, l2, e1, h2⟩ := lenN h1
  exact ⟨x0, x1, by rw [e0, e1, len0 h2]⟩
theorem len4 {α : Type} {l : List α} (h0 : l.length = 4) : ∃ x0 x1 x2 x3, l = [x0, x1, x2, x3] := by
  obtain ⟨x0, l1, e0, h1⟩ := lenN h0
  obtain ⟨x1, l2, e1, h2⟩ := lenN h1
  obtain ⟨x2, l3, e2, h3⟩ := lenN h2
  obtain ⟨x3, l4, e3, h4⟩ := lenN h3
  exact ⟨x0, x1, x2, x3, by rw [e0, e1, e2, e3, len0 h4]⟩
theorem len5 {α : Type} {l : List α} (h0 : l.length = 5) : ∃ x0 x1 x2 x3 x4, l = [x0, x1, x2, x3, x4] := by
  obtain ⟨x0, l1, e0, h1⟩ := lenN h0
  obtain ⟨x1, l2, e1, h2⟩ := lenN h1
  obtain ⟨x2, l3, e2, h3⟩ := lenN h2
  obtain ⟨x3, l4, e3, h4⟩ := lenN h3
  obtain ⟨x4, l5, e4, h5⟩ := lenN h4
  exact ⟨x0, x1, x2, x3, x4, by rw [e0, e1, e2, e3, e4, len0 h5]⟩
theorem len7 {α : Type} {l : List α} (h0 : l.length = 7) : ∃ x0 x1 x2 x3 x4 x5 x6, l = [x0, x1, x2, x3, x4, x5, x6] := by
  obtain ⟨x0, l1, e0, h1⟩ := lenN h0
  obtain ⟨x1, l2, e1, h2⟩ := lenN h1
  obtain ⟨x2, l3, e2, h3⟩ := lenN h2
  obtain ⟨x3, l4, e3, h4⟩ := lenN h3
  obtain ⟨x4, l5, e4, h5⟩ := lenN h4
  obtain ⟨x5, l6, e5, h6⟩ := lenN h5
  obtain ⟨x6, l7, e6, h7⟩ := lenN h6
  exact ⟨x0, x1, x2, x3, x4, x5, x6, by rw [e0, e1, e2, e3, e4, e5, e6, len0 h7]⟩
theorem len8 {α : Type} {l : List α} (h0 : l.length = 8) : ∃ x0 x1 x2 x3 x4 x5 x6 x7, l = [x0, x1, x2, x3, x4, x5, x6, x7] := by
  obtain ⟨x0, l1, e0, h1⟩ := lenN h0
  obtain ⟨x1, l2, e1, h2⟩ := lenN h1
  obtain ⟨x2, l3, e2, h3⟩ := lenN h2
  obtain ⟨x3, l4, e3, h4⟩ := lenN h3
  obtain ⟨x4, l5, e4, h5⟩ := lenN h4
  obtain ⟨x5, l6, e5, h6⟩ := lenN h5
  obtain ⟨x6, l7, e6, h7⟩ := lenN h6
  obtain ⟨x7, l8, e7, h8⟩ := lenN h7
  exact ⟨x0, x1, x2, x3, x4, x5, x6, x7, by rw [e0, e1, e2, e3, e4, e5, e6, e7, len0 h8]⟩
theorem st11 {c owed ack d gone prob : Bool} {a : Ans} (hN : 1370 ≤ N) (I : Inv w uu (lst xs cv) s₀ s N t 8 (some c) (some a) owed ack d gone prob) (L : L9 w s c (waitsOf owed ack d gone prob))
    (k : ∀ s' p' N' t', 1370 ≤ N' → Inv w uu (lst xs cv) s₀ s' N' t' 8 (some c) (some a) owed ack d gone prob → L9 w s' c (waitsOf owed ack d gone prob) → K0 w 12 8 Q p' s') : K0 w 11 9 Q p s := by
  obtain ⟨M, rfl⟩ : ∃ M, N = M + 1090 := ⟨N - 1090, by omega⟩
  obtain ⟨k0, v0, k1, k2, a0, k3, k4, k5, v5, k6, v6, k7, v7, k8, hl⟩ := L
  rcases silent (P := fun b => b ∉ [1095, 1356]) (sil_of I) (by decide) (by cases a <;> decide) (fun b h1 h2 hm => by
    simp only [List.mem_cons, List.not_mem_nil, or_false] at hm
    omega) t with ⟨hw, Ln, hL, t1, new, q, hle, C, hlen, hq⟩ | ⟨hw, hn, t1, new, q, hle, C, hlen, hq⟩ | ⟨hw, hn, t1, new, q, hle, C, hlen, hq⟩
  all_goals rw [hw] at hl k
  · have hs : segOK t [(0, t1)] := ⟨hle, trivial⟩
    have hq' : ∀ x ∈ q, s.heap.get? x.1 = some x.2 ∧ x.1 ∉ [1095] := fun x hx => ⟨(hq x hx).1, fun hm => (hq x hx).2 (by rcases List.mem_singleton.mp hm with h; rw [h]; decide)⟩
    rcases hL with rfl | rfl | rfl | rfl
    · obtain ⟨n0, n1, he⟩ := len2 (hlen (M + 1090 + 0))
      refine seq (n := 1) (m := 8) (p11w2 I.cm.size I.cm.toks I.cm.gens I.cm.kt hl hs C he hq') rfl fun s' p' h => ?_
      obtain ⟨A, h95⟩ := h
      have cm := I.cm.next A (by decide)
      exact k s' p' _ _ (by omega) ⟨cm, A.ex I.bx (by decide), A.kept _ _ (by decide) I.cn, A.kept _ _ (by decide) I.s05, A.ex I.k73 (by decide), A.kept _ _ (by decide) I.g86, A.pl I.p02 (by decide), A.due I.c21 (by decide) (by decide), A.prob I.r60 (by decide), A.owed I.o05 (by decide), A.away I.away (by decide), A.answ I.answ (by decide)⟩ ⟨_, _, _, _, _, _, _, _, _, _, _, _, _, _, h95⟩
    · obtain ⟨n0, n1, n2, n3, he⟩ := len4 (hlen (M + 1090 + 0))
      refine seq (n := 1) (m := 8) (p11w4 I.cm.size I.cm.toks I.cm.gens I.cm.kt hl hs C he hq') rfl fun s' p' h => ?_
      obtain ⟨A, h95⟩ := h
      have cm := I.cm.next A (by decide)
      exact k s' p' _ _ (by omega) ⟨cm, A.ex I.bx (by decide), A.kept _ _ (by decide) I.cn, A.kept _ _ (by decide) I.s05, A.ex I.k73 (by decide), A.kept _ _ (by decide) I.g86, A.pl I.p02 (by decide), A.due I.c21 (by decide) (by decide), A.prob I.r60 (by decide), A.owed I.o05 (by decide), A.away I.away (by decide), A.answ I.answ (by decide)⟩ ⟨_, _, _, _, _, _, _, _, _, _, _, _, _, _, h95⟩
    · obtain ⟨n0, n1, n2, n3, n4, he⟩ := len5 (hlen (M + 1090 + 0))
      refine seq (n := 1) (m := 8) (p11w5 I.cm.size I.cm.toks I.cm.gens I.cm.kt hl hs C he hq') rfl fun s' p' h => ?_
      obtain ⟨A, h95⟩ := h
      have cm := I.cm.next A (by decide)
      exact k s' p' _ _ (by omega) ⟨cm, A.ex I.bx (by decide), A.kept _ _ (by decide) I.cn, A.kept _ _ (by decide) I.s05, A.ex I.k73 (by decide), A.kept _ _ (by decide) I.g86, A.pl I.p02 (by decide), A.due I.c21 (by decide) (by decide), A.prob I.r60 (by decide), A.owed I.o05 (by decide), A.away I.away (by decide), A.answ I.answ (by decide)⟩ ⟨_, _, _, _, _, _, _, _, _, _, _, _, _, _, h95⟩
    · obtain ⟨n0, n1, n2, n3, n4, n5, n6, he⟩ := len7 (hlen (M + 1090 + 0))
      refine seq (n := 1) (m := 8) (p11w7 I.cm.size I.cm.toks I.cm.gens I.cm.kt hl hs C he hq') rfl fun s' p' h => ?_
      obtain ⟨A, h95⟩ := h
      have cm := I.cm.next A (by decide)
      exact k s' p' _ _ (by omega) ⟨cm, A.ex I.bx (by decide), A.kept _ _ (by decide) I.cn, A.kept _ _ (by decide) I.s05, A.ex I.k73 (by decide), A.kept _ _ (by decide) I.g86, A.pl I.p02 (by decide), A.due I.c21 (by decide) (by decide), A.prob I.r60 (by decide), A.owed I.o05 (by decide), A.away I.away (by decide), A.answ I.answ (by decide)⟩ ⟨_, _, _, _, _, _, _, _, _, _, _, _, _, _, h95⟩
  · have hs : segOK t [(0, t1)] := ⟨hle, trivial⟩
    obtain ⟨n0, n1, n2, n3, n4, n5, n6, he⟩ := len7 (hlen (M + 1090 + 0))
    have ha := I.answ
    cases a with
    | n => exact absurd rfl hn
    | h =>
      refine seq (n := 1) (m := 8) (p11h I.cm.size I.cm.toks I.cm.gens I.cm.kt hl ha.2.1 hs C he hq) rfl fun s' p' h => ?_
      obtain ⟨A, h95, h356⟩ := h
      have cm := I.cm.next A (by decide)
      exact k s' p' _ _ (by omega) ⟨cm, A.ex I.bx (by decide), A.kept _ _ (by decide) I.cn, A.kept _ _ (by decide) I.s05, A.ex I.k73 (by decide), A.kept _ _ (by decide) I.g86, A.pl I.p02 (by decide), A.due I.c21 (by decide) (by decide), A.prob I.r60 (by decide), A.owed I.o05 (by decide), A.away I.away (by decide), ⟨A.kept _ _ (by decide) ha.1, h356, A.ex2 ha.2.2.1 (by decide), A.kept _ _ (by decide) ha.2.2.2⟩⟩ ⟨_, _, _, _, _, _, _, _, _, _, _, _, _, _, h95⟩
    | a =>
      refine seq (n := 1) (m := 8) (p11h I.cm.size I.cm.toks I.cm.gens I.cm.kt hl ha.2.1 hs C he hq) rfl fun s' p' h => ?_
      obtain ⟨A, h95, h356⟩ := h
      have cm := I.cm.next A (by decide)
      exact k s' p' _ _ (by omega) ⟨cm, A.ex I.bx (by decide), A.kept _ _ (by decide) I.cn, A.kept _ _ (by decide) I.s05, A.ex I.k73 (by decide), A.kept _ _ (by decide) I.g86, A.pl I.p02 (by decide), A.due I.c21 (by decide) (by decide), A.prob I.r60 (by decide), A.owed I.o05 (by decide), A.away I.away (by decide), ⟨A.kept _ _ (by decide) ha.1, h356, A.ex2 ha.2.2.1 (by decide), A.kept _ _ (by decide) ha.2.2.2⟩⟩ ⟨_, _, _, _, _, _, _, _, _, _, _, _, _, _, h95⟩
    | b =>
      refine seq (n := 1) (m := 8) (p11b I.cm.size I.cm.toks I.cm.gens I.cm.kt hl ha.2.1 hs C he hq) rfl fun s' p' h => ?_
      obtain ⟨A, h95, h356⟩ := h
      have cm := I.cm.next A (by decide)
      exact k s' p' _ _ (by omega) ⟨cm, A.ex I.bx (by decide), A.kept _ _ (by decide) I.cn, A.kept _ _ (by decide) I.s05, A.ex I.k73 (by decide), A.kept _ _ (by decide) I.g86, A.pl I.p02 (by decide), A.due I.c21 (by decide) (by decide), A.prob I.r60 (by decide), A.owed I.o05 (by decide), A.away I.away (by decide), ⟨A.kept _ _ (by decide) ha.1, h356, A.ex2 ha.2.2.1 (by decide), A.ex2 ha.2.2.2.1 (by decide), A.kept _ _ (by decide) ha.2.2.2.2⟩⟩ ⟨_, _, _, _, _, _, _, _, _, _, _, _, _, _, h95⟩
  · have hs : segOK t [(0, t1)] := ⟨hle, trivial⟩
    obtain ⟨n0, n1, n2, n3, n4, n5, n6, n7, he⟩ := len8 (hlen (M + 1090 + 0))
    have ha := I.answ
    cases a with
    | n =>
      refine seq (n := 1) (m := 8) (p11n I.cm.size I.cm.toks I.cm.gens I.cm.kt hl ha.2.1 hs C he hq) rfl fun s' p' h => ?_
      obtain ⟨A, h95, h356⟩ := h
      have cm := I.cm.next A (by decide)
      exact k s' p' _ _ (by omega) ⟨cm, A.ex I.bx (by decide), A.kept _ _ (by decide) I.cn, A.kept _ _ (by decide) I.s05, A.ex I.k73 (by decide), A.kept _ _ (by decide) I.g86, A.pl I.p02 (by decide), A.due I.c21 (by decide) (by decide), A.prob I.r60 (by decide), A.owed I.o05 (by decide), A.away I.away (by decide), ⟨A.kept _ _ (by decide) ha.1, h356, A.kept _ _ (by decide) ha.2.2⟩⟩ ⟨_, _, _, _, _, _, _, _, _, _, _, _, _, _, h95⟩
    | h => exact absurd hn (by decide)
    | a => exact absurd hn (by decide)
    | b => exact absurd hn (by decide)
end
end Mine
end
section
set_option maxRecDepth 100000
set_option linter.unusedVariables false
set_option linter.constructorNameAsVariable false
open PySem PySem.W PySem.Calls PyProof.Rows
open PySem.Sem (wp)
namespace Mine
section
variable {w : World} {uu N t cv : Nat} {xs : Array Value} {s₀ s : Shared} {p : Pos} {Q : Flow → Pos → Shared → Prop}
theorem dueB_keep {s' : Shared} {base : List Nat} {mE t' hi : Nat} {d : Bool} (A : After s s' base N mE (t' + 1837)) (h : fDueB w uu s hi d) (hb : 1221 ∉ base) (hl : ∀ b ∈ base, b < 1379) : fDueB w uu s' hi d := by
  cases d with
  | false => exact A.ex h hb
  | true =>
    obtain ⟨v, aD, x, h1, h2, h3, h4⟩ := h
    exact ⟨v, aD, x, A.kept _ _ hb h1, A.kept _ _ (fun hm => by have := hl _ hm; omega) h2, h3, h4⟩
theorem st12 {c owed ack d gone prob wt : Bool} {a : Ans} (hN : 1370 ≤ N) (I : Inv w uu (lst xs cv) s₀ s N t 8 (some c) (some a) owed ack d gone prob) (L : L9 w s c wt)
    (k : ∀ s' p' N' t' st aA, 1370 ≤ N' → Cm w uu (lst xs cv) s₀ s' N' t' → L12 w s' wt st → Sil w uu s' owed ack d gone prob (numS a) aA N → fN s' st (numS a) → N ≤ st + 1090 → aA ≠ st → K0 w 19 1 Q p' s') : K0 w 12 8 Q p s := by
  obtain ⟨M, rfl⟩ : ∃ M, N = M + 1090 := ⟨N - 1090, by omega⟩
  obtain ⟨k0, v0, k1, k2, a0, k3, k4, k5, v5, k6, v6, k7, v7, k8, hl⟩ := L
  obtain ⟨pa, v1, v2, v3, v4, u6, u7, u8, fu, h02⟩ := pl_any I.p02
  obtain ⟨ra, rb, h60⟩ := I.r60
  obtain ⟨ku, h73⟩ := I.k73
  obtain ⟨h94, ⟨ua, ya, yb, h49⟩, h50⟩ := I.away
  have h86 := I.g86
  have hdb := due_b I.c21
  rw [I.cm.size] at hdb
  have ha := I.answ
  cases c with
  | false =>
    cases a with
    | n =>
      obtain ⟨h87, h56, h62⟩ := ha
      refine seq (n := 7) (m := 1) (p12hn I.cm.size I.cm.toks I.cm.gens I.cm.kt hl I.cn h86 h02 I.s05 h60 h73 h87 h94 h49 h50 h56 h62) rfl fun s' p' h => ?_
      obtain ⟨A, h95, h106, h186, h202, h205, h260, h273, h287, h294, h349, h350, h356, h362, hst, han⟩ := h
      have cm := I.cm.next A (by decide)
      have e1 : M + 1090 + 59 = (M + 59) + 1090 := by omega
      have e2 : M + 1090 + 16 = (M + 16) + 1090 := by omega
      rw [e1] at h95 hst
      rw [e2] at h287 han
      exact k s' p' _ _ (M + 59) (M + 16) (by omega) cm ⟨_, _, _, _, _, _, _, _, _, _, _, _, _, _, _, _, _, _, _, _, _, h95⟩ ⟨⟨_, h106⟩, h186, ⟨_, _, _, _, _, _, _, _, _, h202⟩, dueB_keep A hdb (by decide) (by decide), ⟨_, _, h260⟩, A.owed I.o05 (by decide), h287, han, by omega⟩ hst (by omega) (by omega)
    | h =>
      obtain ⟨h87, h56, ⟨tx, ty, h66⟩, h70⟩ := ha
      refine seq (n := 7) (m := 1) (p12hh I.cm.size I.cm.toks I.cm.gens I.cm.kt hl I.cn h86 h02 I.s05 h60 h73 h87 h94 h49 h50 h56 h66 h70) rfl fun s' p' h => ?_
      obtain ⟨A, h95, h106, h186, h202, h205, h260, h273, h287, h294, h349, h350, h356, h366, h370, hst, han⟩ := h
      have cm := I.cm.next A (by decide)
      have e1 : M + 1090 + 62 = (M + 62) + 1090 := by omega
      have e2 : M + 1090 + 16 = (M + 16) + 1090 := by omega
      rw [e1] at h95 hst
      rw [e2] at h287 han
      exact k s' p' _ _ (M + 62) (M + 16) (by omega) cm ⟨_, _, _, _, _, _, _, _, _, _, _, _, _, _, _, _, _, _, _, _, _, h95⟩ ⟨⟨_, h106⟩, h186, ⟨_, _, _, _, _, _, _, _, _, h202⟩, dueB_keep A hdb (by decide) (by decide), ⟨_, _, h260⟩, A.owed I.o05 (by decide), h287, ⟨_, han⟩, by omega⟩ ⟨_, hst⟩ (by omega) (by omega)
    | a =>
      cases gone with
      | false =>
        obtain ⟨h87, h56, ⟨tx, ty, h67⟩, h70⟩ := ha
        refine seq (n := 7) (m := 1) (p12ha0 I.cm.size I.cm.toks I.cm.gens I.cm.kt hl I.cn h86 h02 I.s05 h60 h73 h87 h94 h49 h50 h56 h67 h70 ⟨by dsimp only; omega, trivial⟩ pp (gl_of rfl) fa_nil) rfl fun s' p' h => ?_
        obtain ⟨A, h95, h106, h186, h202, h205, h260, h273, h287, h294, h349, h350, h356, h367, h370, hst, han⟩ := h
        have cm := I.cm.next A (by decide)
        have e1 : M + 1090 + 707 = (M + 707) + 1090 := by omega
        have e2 : M + 1090 + 16 = (M + 16) + 1090 := by omega
        rw [e1] at h95 hst
        rw [e2] at h287 han
        exact k s' p' _ _ (M + 707) (M + 16) (by omega) cm ⟨_, _, _, _, _, _, _, _, _, _, _, _, _, _, _, _, _, _, _, _, _, h95⟩ ⟨⟨_, h106⟩, h186, ⟨_, _, _, _, _, _, _, _, _, h202⟩, dueB_keep A hdb (by decide) (by decide), ⟨_, _, h260⟩, A.owed I.o05 (by decide), h287, han, by omega⟩ hst (by omega) (by omega)
      | true =>
        obtain ⟨h87, h56, ⟨tx, ty, h67⟩, h70⟩ := ha
        refine seq (n := 7) (m := 1) (p12ha1 I.cm.size I.cm.toks I.cm.gens I.cm.kt hl I.cn h86 h02 I.s05 h60 h73 h87 h94 h49 h50 h56 h67 h70 ⟨by dsimp only; omega, trivial⟩ pp (gl_of rfl) fa_nil) rfl fun s' p' h => ?_
        obtain ⟨A, h95, h106, h186, h202, h205, h260, h273, h287, h294, h349, h350, h356, h367, h370, hst, han⟩ := h
        have cm := I.cm.next A (by decide)
        have e1 : M + 1090 + 700 = (M + 700) + 1090 := by omega
        have e2 : M + 1090 + 16 = (M + 16) + 1090 := by omega
        rw [e1] at h95 hst
        rw [e2] at h287 han
        exact k s' p' _ _ (M + 700) (M + 16) (by omega) cm ⟨_, _, _, _, _, _, _, _, _, _, _, _, _, _, _, _, _, _, _, _, _, h95⟩ ⟨⟨_, h106⟩, h186, ⟨_, _, _, _, _, _, _, _, _, h202⟩, dueB_keep A hdb (by decide) (by decide), ⟨_, _, h260⟩, A.owed I.o05 (by decide), h287, han, by omega⟩ hst (by omega) (by omega)
    | b =>
      cases gone with
      | false =>
        obtain ⟨h87, h56, ⟨tx, ty, h66⟩, ⟨tx2, ty2, h75⟩, h78⟩ := ha
        refine seq (n := 7) (m := 1) (p12hb0 I.cm.size I.cm.toks I.cm.gens I.cm.kt hl I.cn h86 h02 I.s05 h60 h73 h87 h94 h49 h50 h56 h66 h75 h78 ⟨by dsimp only; omega, trivial⟩ pp (gl_of rfl) fa_nil) rfl fun s' p' h => ?_
        obtain ⟨A, h95, h106, h186, h202, h205, h260, h273, h287, h294, h349, h350, h356, h366, h375, h378, hst, han⟩ := h
        have cm := I.cm.next A (by decide)
        have e1 : M + 1090 + 710 = (M + 710) + 1090 := by omega
        have e2 : M + 1090 + 16 = (M + 16) + 1090 := by omega
        rw [e1] at h95 hst
        rw [e2] at h287 han
        exact k s' p' _ _ (M + 710) (M + 16) (by omega) cm ⟨_, _, _, _, _, _, _, _, _, _, _, _, _, _, _, _, _, _, _, _, _, h95⟩ ⟨⟨_, h106⟩, h186, ⟨_, _, _, _, _, _, _, _, _, h202⟩, dueB_keep A hdb (by decide) (by decide), ⟨_, _, h260⟩, A.owed I.o05 (by decide), h287, ⟨_, han⟩, by omega⟩ ⟨_, hst⟩ (by omega) (by omega)
      | true =>
        obtain ⟨h87, h56, ⟨tx, ty, h66⟩, ⟨tx2, ty2, h75⟩, h78⟩ := ha
        refine seq (n := 7) (m := 1) (p12hb1 I.cm.size I.cm.toks I.cm.gens I.cm.kt hl I.cn h86 h02 I.s05 h60 h73 h87 h94 h49 h50 h56 h66 h75 h78 ⟨by dsimp only; omega, trivial⟩ pp (gl_of rfl) fa_nil) rfl fun s' p' h => ?_
        obtain ⟨A, h95, h106, h186, h202, h205, h260, h273, h287, h294, h349, h350, h356, h366, h375, h378, hst, han⟩ := h
        have cm := I.cm.next A (by decide)
        have e1 : M + 1090 + 703 = (M + 703) + 1090 := by omega
        have e2 : M + 1090 + 16 = (M + 16) + 1090 := by omega
        rw [e1] at h95 hst
        rw [e2] at h287 han
        exact k s' p' _ _ (M + 703) (M + 16) (by omega) cm ⟨_, _, _, _, _, _, _, _, _, _, _, _, _, _, _, _, _, _, _, _, _, h95⟩ ⟨⟨_, h106⟩, h186, ⟨_, _, _, _, _, _, _, _, _, h202⟩, dueB_keep A hdb (by decide) (by decide), ⟨_, _, h260⟩, A.owed I.o05 (by decide), h287, ⟨_, han⟩, by omega⟩ ⟨_, hst⟩ (by omega) (by omega)
  | true =>
    cases a with
    | n =>
      obtain ⟨h87, h56, h62⟩ := ha
      refine seq (n := 7) (m := 1) (p12tn I.cm.size I.cm.toks I.cm.gens I.cm.kt hl I.cn h86 h02 I.s05 h60 h73 h87 h94 h49 h50 h56 h62) rfl fun s' p' h => ?_
      obtain ⟨A, h95, h106, h186, h202, h205, h260, h273, h287, h294, h349, h350, h356, h362, hst, han⟩ := h
      have cm := I.cm.next A (by decide)
      have e1 : M + 1090 + 52 = (M + 52) + 1090 := by omega
      have e2 : M + 1090 + 9 = (M + 9) + 1090 := by omega
      rw [e1] at h95 hst
      rw [e2] at h287 han
      exact k s' p' _ _ (M + 52) (M + 9) (by omega) cm ⟨_, _, _, _, _, _, _, _, _, _, _, _, _, _, _, _, _, _, _, _, _, h95⟩ ⟨⟨_, h106⟩, h186, ⟨_, _, _, _, _, _, _, _, _, h202⟩, dueB_keep A hdb (by decide) (by decide), ⟨_, _, h260⟩, A.owed I.o05 (by decide), h287, han, by omega⟩ hst (by omega) (by omega)
    | h =>
      obtain ⟨h87, h56, ⟨tx, ty, h66⟩, h70⟩ := ha
      refine seq (n := 7) (m := 1) (p12th I.cm.size I.cm.toks I.cm.gens I.cm.kt hl I.cn h86 h02 I.s05 h60 h73 h87 h94 h49 h50 h56 h66 h70) rfl fun s' p' h => ?_
      obtain ⟨A, h95, h106, h186, h202, h205, h260, h273, h287, h294, h349, h350, h356, h366, h370, hst, han⟩ := h
      have cm := I.cm.next A (by decide)
      have e1 : M + 1090 + 55 = (M + 55) + 1090 := by omega
      have e2 : M + 1090 + 9 = (M + 9) + 1090 := by omega
      rw [e1] at h95 hst
      rw [e2] at h287 han
      exact k s' p' _ _ (M + 55) (M + 9) (by omega) cm ⟨_, _, _, _, _, _, _, _, _, _, _, _, _, _, _, _, _, _, _, _, _, h95⟩ ⟨⟨_, h106⟩, h186, ⟨_, _, _, _, _, _, _, _, _, h202⟩, dueB_keep A hdb (by decide) (by decide), ⟨_, _, h260⟩, A.owed I.o05 (by decide), h287, ⟨_, han⟩, by omega⟩ ⟨_, hst⟩ (by omega) (by omega)
    | a =>
      obtain ⟨h87, h56, ⟨tx, ty, h67⟩, h70⟩ := ha
      refine seq (n := 7) (m := 1) (p12ta I.cm.size I.cm.toks I.cm.gens I.cm.kt hl I.cn h86 h02 I.s05 h60 h73 h87 h94 h49 h50 h56 h67 h70) rfl fun s' p' h => ?_
      obtain ⟨A, h95, h106, h186, h202, h205, h260, h273, h287, h294, h349, h350, h356, h367, h370, hst, han⟩ := h
      have cm := I.cm.next A (by decide)
      have e1 : M + 1090 + 332 = (M + 332) + 1090 := by omega
      have e2 : M + 1090 + 9 = (M + 9) + 1090 := by omega
      rw [e1] at h95 hst
      rw [e2] at h287 han
      exact k s' p' _ _ (M + 332) (M + 9) (by omega) cm ⟨_, _, _, _, _, _, _, _, _, _, _, _, _, _, _, _, _, _, _, _, _, h95⟩ ⟨⟨_, h106⟩, h186, ⟨_, _, _, _, _, _, _, _, _, h202⟩, dueB_keep A hdb (by decide) (by decide), ⟨_, _, h260⟩, A.owed I.o05 (by decide), h287, han, by omega⟩ hst (by omega) (by omega)
    | b =>
      obtain ⟨h87, h56, ⟨tx, ty, h66⟩, ⟨tx2, ty2, h75⟩, h78⟩ := ha
      refine seq (n := 7) (m := 1) (p12tb I.cm.size I.cm.toks I.cm.gens I.cm.kt hl I.cn h86 h02 I.s05 h60 h73 h87 h94 h49 h50 h56 h66 h75 h78) rfl fun s' p' h => ?_
      obtain ⟨A, h95, h106, h186, h202, h205, h260, h273, h287, h294, h349, h350, h356, h366, h375, h378, hst, han⟩ := h
      have cm := I.cm.next A (by decide)
      have e1 : M + 1090 + 335 = (M + 335) + 1090 := by omega
      have e2 : M + 1090 + 9 = (M + 9) + 1090 := by omega
      rw [e1] at h95 hst
      rw [e2] at h287 han
      exact k s' p' _ _ (M + 335) (M + 9) (by omega) cm ⟨_, _, _, _, _, _, _, _, _, _, _, _, _, _, _, _, _, _, _, _, _, h95⟩ ⟨⟨_, h106⟩, h186, ⟨_, _, _, _, _, _, _, _, _, h202⟩, dueB_keep A hdb (by decide) (by decide), ⟨_, _, h260⟩, A.owed I.o05 (by decide), h287, ⟨_, han⟩, by omega⟩ ⟨_, hst⟩ (by omega) (by omega)
theorem left_of_cm {x99 : Obj} (C : Cm w uu x99 s₀ s N t) : Left w.params s₀ s :=
  ⟨C.old, ⟨#[], tabMore, rfl, by rw [Array.empty_append]; exact C.tab⟩, C.gens, C.os⟩
theorem finL {x99 : Obj} {s' : Shared} {base : List Nat} {mE t' : Nat} (C : Cm w uu x99 s₀ s N t) (A : After s s' base N mE (t' + 1837)) (hb : ∀ a ∈ base, a ∈ FB ∨ 1333 ≤ a) : Left w.params s₀ s' := left_of_cm (C.next A hb)
abbrev QF (w : World) (s₀ : Shared) : Flow → Pos → Shared → Prop := fun g _ s' => g = .ret (.bool true) ∧ Left w.params s₀ s'
theorem st19 {x99 : Obj} {owed ack d gone prob : Bool} {n st aA hi : Nat} (hN : 1370 ≤ N) (C : Cm w uu x99 s₀ s N t) (L : L12 w s (waitsOf owed ack d gone prob) st) (S : Sil w uu s owed ack d gone prob n aA hi) (F : fN s st n) (hn2 : n ≤ 1) (h1 : hi ≤ st + 1090) (h0 : 1370 ≤ hi) (h2 : aA ≠ st) : K0 w 19 1 (QF w s₀) p s := by
  obtain ⟨M, rfl⟩ : ∃ M, N = M + 1090 := ⟨N - 1090, by omega⟩
  obtain ⟨k0, v0, k1, k2, v2, k3, v3, k4, v4, k5, v5, k6, v6, k7, v7, k8, k9, v9, k10, v10, k11, hl⟩ := L
  have hst : 1333 ≤ st + 1090 := by omega
  have hnd : [1095, st + 1090].Nodup := by
    simp only [List.nodup_cons, List.mem_cons, List.not_mem_nil, or_false, not_false_eq_true, List.nodup_nil, and_true]
    omega
  rcases silent (P := fun b => b ∉ [1095, st + 1090]) S (by
      intro b hb hm
      simp only [List.mem_cons, List.not_mem_nil, or_false] at hb hm
      omega) (by
      intro hm
      have := S.big
      simp only [List.mem_cons, List.not_mem_nil, or_false] at hm
      omega) (fun b h3 h4 hm => by
      simp only [List.mem_cons, List.not_mem_nil, or_false] at hm
      omega) t with ⟨hw, Ln, hL, t1, new, q, hle, K, hlen, hq⟩ | ⟨hw, hn, t1, new, q, hle, K, hlen, hq⟩ | ⟨hw, hn, t1, new, q, hle, K, hlen, hq⟩
  all_goals rw [hw] at hl
  · have hs : segOK t [(0, t1)] := ⟨hle, trivial⟩
    have hq' : ∀ x ∈ q, s.heap.get? x.1 = some x.2 ∧ x.1 ∉ [1095] := fun x hx => ⟨(hq x hx).1, fun hm => (hq x hx).2 (by rcases List.mem_singleton.mp hm with h; rw [h]; exact .head _)⟩
    rcases hL with rfl | rfl | rfl | rfl
    · obtain ⟨n0, n1, he⟩ := len2 (hlen (M + 1090 + 0))
      exact Sem.wp_mono _ _ _ (fun g _ s' h => ⟨h.1, finL C h.2.1 (by decide)⟩) (fun _ _ _ h => h) _ _ (p19w2 C.size C.toks C.gens C.kt hl hs K he hq')
    · obtain ⟨n0, n1, n2, n3, he⟩ := len4 (hlen (M + 1090 + 0))
      exact Sem.wp_mono _ _ _ (fun g _ s' h => ⟨h.1, finL C h.2.1 (by decide)⟩) (fun _ _ _ h => h) _ _ (p19w4 C.size C.toks C.gens C.kt hl hs K he hq')
    · obtain ⟨n0, n1, n2, n3, n4, he⟩ := len5 (hlen (M + 1090 + 0))
      exact Sem.wp_mono _ _ _ (fun g _ s' h => ⟨h.1, finL C h.2.1 (by decide)⟩) (fun _ _ _ h => h) _ _ (p19w5 C.size C.toks C.gens C.kt hl hs K he hq')
    · obtain ⟨n0, n1, n2, n3, n4, n5, n6, he⟩ := len7 (hlen (M + 1090 + 0))
      exact Sem.wp_mono _ _ _ (fun g _ s' h => ⟨h.1, finL C h.2.1 (by decide)⟩) (fun _ _ _ h => h) _ _ (p19w7 C.size C.toks C.gens C.kt hl hs K he hq')
  · have hs : segOK t [(0, t1)] := ⟨hle, trivial⟩
    obtain ⟨n0, n1, n2, n3, n4, n5, n6, he⟩ := len7 (hlen (M + 1090 + 0))
    obtain rfl : n = 1 := by omega
    obtain ⟨x, F⟩ := F
    exact Sem.wp_mono _ _ _ (fun g _ s' h => ⟨h.1, finL C h.2.1 (fa_cons (.inl (by decide)) <| fa_cons (.inr hst) <| fa_nil)⟩) (fun _ _ _ h => h) _ _ (p19h C.size C.toks C.gens C.kt hst hnd hl F hs K he hq)
  · have hs : segOK t [(0, t1)] := ⟨hle, trivial⟩
    obtain ⟨n0, n1, n2, n3, n4, n5, n6, n7, he⟩ := len8 (hlen (M + 1090 + 0))
    subst hn
    exact Sem.wp_mono _ _ _ (fun g _ s' h => ⟨h.1, finL C h.2.1 (fa_cons (.inl (by decide)) <| fa_cons (.inr hst) <| fa_nil)⟩) (fun _ _ _ h => h) _ _ (p19n C.size C.toks C.gens C.kt hst hnd hl F hs K he hq)
end
theorem law_holds (w : World) : LawHolds w := by
  intro s its hz K h94 hints ht hg
  obtain ⟨t, ht'⟩ : ∃ t, s.toks = t + 1837 := ⟨s.toks - 1837, by omega⟩
  refine law_pro hz K h94 t ht' hg fun s' p' h1 h2 h3 h4 h5 hk h95 h96 => ?_
  refine law_p0 hz K h94 h1 h2 h3 h5 hk h95 h96 fun s1 p1 xs cv uu t1 hx h16 I L => ?_
  have hx' : ∀ v ∈ xs, ∃ i t, v = Value.int i t := fun v hv => hints v (hx v hv)
  have D : Draws w uu xs cv := ⟨draw0 hx' h16, fun it ac la => draw1 hx' h16, fun it ac la => draw2 hx' h16, draw3 hx' h16, draw4 hx' h16, draw5 hx' h16, draw6 hx' h16, draw7 hx' h16⟩
  refine st1 D I L fun s2 p2 t2 c I L => ?_
  refine st3 D I L fun s3 p3 N3 t3 a h3 I L => ?_
  refine st5 D h3 I L fun s4 p4 N4 t4 owed h4 I L => ?_
  refine st6 D h4 I L fun s5 p5 N5 t5 ack d h5 I L => ?_
  refine st8 h5 I L fun s6 p6 N6 t6 h6 I L => ?_
  refine st9 D h6 I L fun s7 p7 N7 t7 gone prob h7 I L => ?_
  refine st10 h7 I L fun s8 p8 N8 t8 h8 I L => ?_
  refine st11 h8 I L fun s9 p9 N9 t9 h9 I L => ?_
  refine st12 h9 I L fun s10 p10 N10 t10 st aA h10 C L S F h11 h12 => ?_
  exact st19 h10 C L S F (by cases a <;> decide) h11 h9 h12
end Mine
end
section
set_option maxRecDepth 100000
set_option Elab.async false
open PySem PySem.W PySem.Calls PyProof.Rows
namespace Mine
theorem prom : RR.toRowW.promised := RowW.promised_of_found (by decide +kernel)
theorem row_holds : RR.Holds := finish law_holds (left_of top_ok) ws0 prom
end Mine
end
open PySem PySem.W PyProof.Rows
set_option maxRecDepth 100000 in
set_option maxHeartbeats 8000000 in
theorem PySem.Challenge.cw_pf0282_01_holds : PySem.Challenge.rw_pf0282_01.Holds :=
  ⟨Mine.well, Mine.row_holds⟩
